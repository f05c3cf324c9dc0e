import PyProof.Rows.All
import Wide.All
import OpenK.AllK
import Wide.FinOn
import HandS.ForMost
import HandS.ForExc
import HandS.IsInst
import HandS.ExcInit
import HandS.ExcField
import HandS.ExcIs
import KE.KExcSuper
import HandS.Walk
import HandS.Iter
import KE.KDictCopyH
import HandS.Lambda
import HandS.EndTab
import HandS.DictComp
import HandS.ListItems
import HandS.Style
import HandS.SetFor
import HandS.Steps
import HandS.StrMore
import HandS.Text
import HandS.DeepEq
import HandS.More
import HandS.Small
import HandS.Conv
import PyProof.ListStr
import HandS.ReplaceLit
import PyProof.RulesMatch
import HandS.Star
import HandS.Head0
import HandS.Head1
import HandS.Head2
import HandS.HeadHook1
import HandS.HeadHook2
import HandS.HeadHook3
import HandS.HeadHook4
import HandS.Property
import HandS.Set
import HandS.SetKeys
import PyProof.Rows.SetFrom
import HandS.Deep
import KE.GoesEnum
import PyProof.CollectIter
import HandS.List
import HandS.TupAny
import PyProof.TupleOfGen
import PyProof.TupleOfStr
import KE.KDictList
import HandS.HeadEnd
import HandS.Wide
import KE.IntTextLaws
import HandS.Codes
import PySem.Challenge.RW_tagless_k03_names_and_rings
section
set_option Elab.async false
set_option linter.all false
set_option maxRecDepth 100000
set_option maxHeartbeats 4000000
/-! Tg, part A: promises of defs where no repr runs around (so that repr can be asked), and the law's end over them. -/
namespace Tg
open PySem PySem.Spec PyProof.Rows L2

structure FnG (P : Program) (w : World) (K : PySem.W.Frag) (mg : Str → Option Value) (base : Heap) (CX : CXT) (k : Nat) (f : Addr) (fd : FuncData) (ps : List Str) (sp : Sp) : Prop where
  len : ∀ vs H Q E, sp vs H Q E → vs.length = ps.length
  go : ∀ (A : Around) (fr : List Env) (s : Shared) (H : Hp) (ag : Args) (us : List Value) (vs : List V) (Q : VK) (E : XK),
    A.guards = some [] → Room k A → Env0 P w K mg base A fr s H → BindsTo s fd ag (ps.zip us) → Vals vs us → sp vs H Q E →
      codeAny (model P w) A (.call (.ref f) ag) (CR CX fr P w H s Q E) s

section
variable {P : Program} {w : World} {K : PySem.W.Frag} {mg : Str → Option Value} {base : Heap} {CX : CXT} {k : Nat} {f : Addr} {fd : FuncData} {ps : List Str} {sp : Sp}

theorem FnG.of (F : FnOk P w K mg base CX k f fd ps sp) : FnG P w K mg base CX k f fd ps sp :=
  ⟨F.len, fun A fr s H ag us vs Q E _ => F.run A fr s H ag us vs Q E⟩

theorem FnG.mono {j : Nat} (F : FnG P w K mg base CX j f fd ps sp) (h : j ≤ k) : FnG P w K mg base CX k f fd ps sp :=
  ⟨F.len, fun A fr s H ag us vs Q E g r => F.go A fr s H ag us vs Q E g (r.mono h)⟩

theorem guards_deeper (A : Around) (env : Env) : (A.deeper env).guards = A.guards := rfl
end

section
variable {P : Program} {w : World} {K : PySem.W.Frag} {mg : Str → Option Value} {base : Heap}

/-- a def by its body -/
theorem fnG_of {CX : CXT} {k : Nat} {f : Addr} {nm ql : Str} {pa : Arguments} {bd : List Stmt} {sc : Scope} {dV kV dc pm cd ct oc : Value} {an od : Option Addr} {sl : Array (Option Value)} {N ps : List Str} {sp : Sp}
    (lk : K.lookup f = some ⟨oc, od, .func (PySem.W.fnOf nm ql pa bd sc dV kV dc pm an cd ct), sl⟩) (hcd : PySem.W.codeIn K cd ql = true) (S : FnScope N ps sc) (len : ∀ vs H Q E, sp vs H Q E → vs.length = ps.length)
    (hb : ∀ (A : Around) (fr : List Env) (s : Shared) (H : Hp) (vs : List V) (Q : VK) (E : XK), A.guards = some [] → Room k (A.deeper (envOfC ql sc s.heap.objs.size f cd)) → sp vs H Q E →
      ∃ t, PSs (cxOf CX P w K mg base N ql sc f cd A fr s H E) bd t ∧ t { nx := fun _ H' => Q .non H', rt := Q } (start N vs) H) :
    FnG P w K mg base CX (k + 1) f (PySem.W.fnOf nm ql pa bd sc dV kV dc pm an cd ct) ps sp := by
  constructor
  · exact len
  intro A fr s H ag us vs Q E hgd room en bnd rel hsp
  have hlen : vs.length = ps.length := len _ _ _ _ hsp
  have stays : ∀ b o, base.get? b = some o → s.heap.get? b = some o := fun b o e => (en.bs b o e).1
  have inK : K.In s.heap := en.mod.kin.keeps stays
  have noLim : s.heap.NoLimit := en.mod.nolimit.keeps stays
  have kinds : ∀ y ∈ ps.zip us, sc.names.lookup y.1 = some .local ∨ (sc.names.lookup y.1 = some .cell ∧ ((cellsFrom (s.heap.objs.size + 1) sc.names []).lookup y.1).isSome = true) := by
    intro y hy
    have hm : y.1 ∈ ps := (List.of_mem_zip (show (y.1, y.2) ∈ ps.zip us from hy)).1
    cases S.par y.1 hm with
    | inl q => exact .inl q
    | inr q => exact .inr ⟨q, PySem.W.cellsFrom_some _ _ _ (.inl q)⟩
  apply codeAny_call_function room.depth (inK _ _ lk) rfl S.co S.gen rfl (PySem.W.codeRec_of inK hcd)
  apply bnd
  apply wpAny_newFunctionEnv_cells S.kind kinds
  intro env he s1 x
  subst he
  constructor
  · exact noLim.keeps x.toInCall.keep
  apply codeAny_func
  obtain ⟨t, ht, hq⟩ := hb A fr s H vs Q E hgd (room.deeper _) hsp
  have inv : Inv (cxOf CX P w K mg base N ql sc f cd A fr s H E) [] (start N vs) H s1 := inv_start S room.hd en hlen rel x
  have ran := ht.run [] s1 (start N vs) H _ inv hq
  apply wpAny_mono ran
  · intro fl s' hs
    have ends : ∀ {σ' : L2.St} {H' : Hp} {v : V} {u : Value}, Inv (cxOf CX P w K mg base N ql sc f cd A fr s H E) [] σ' H' s' → RelV v u → Q v H' → CE fr P w H s Q u s' :=
      fun {_ H' v _} J rv q => ⟨v, H', J.os, J.bare, J.base, J.hok, rv, q⟩
    match fl, hs with
    | .ret u, ⟨v, σ', H', J, rv, q⟩ => exact ends J rv q
    | .next, ⟨σ', H', J, q⟩ => exact ends (v := V.non) (u := Value.none) J rfl q
    | .brk, ⟨_, _, _, q⟩ => exact q.elim
    | .cont, ⟨_, _, _, q⟩ => exact q.elim
  · exact fun e s' hs => hs

/-- .. of the text's own def, from which nothing is raised -/
theorem funG {x ql : Str} {st : Stmt} {f : Addr} {fd : FuncData} {N ps : List Str} {k : Nat} {sp : Sp} (F : Fun K x ql st f fd) (S : FnScope N ps (defScope st)) (len : ∀ vs H Q E, sp vs H Q E → vs.length = ps.length)
    (hb : ∀ (cd : Value) (A : Around) (fr : List Env) (s : Shared) (H : Hp) (vs : List V) (Q : VK) (E : XK), A.guards = some [] → Room k (A.deeper (envOfC ql (defScope st) s.heap.objs.size f cd)) → sp vs H Q E →
      ∃ t, PSs (cxOf CX0 P w K mg base N ql (defScope st) f cd A fr s H E).nox (defBody st) t ∧ t { nx := fun _ H' => Q .non H', rt := Q } (start N vs) H) : FnG P w K mg base CX0 (k + 1) f fd ps sp := by
  obtain ⟨_, _, _, _, _, _, cd, _, _, rfl, lk, hc⟩ := F.ex
  exact fnG_of lk hc S len fun A fr s H vs Q E hg hr hsp => by
    obtain ⟨t, h, q⟩ := hb cd A fr s H vs Q E hg hr hsp
    exact ⟨t, h.nox, q⟩
end

section
variable {X : Cx} {CX : CXT} {k : Nat} {f : Addr} {fd : FuncData} {ps : List Str} {sp : Sp} {dvs : List V} {ds : List Value} {E : XK} {x : Str} {p pos : Pos} {e : Expr} {es : List Expr} {t : TA}
/-- f(e, ..), such a def -/
theorem pe_callG (F : FnG X.prog X.w X.K X.mg X.base CX k f fd ps sp) (hgd : X.A.guards = some []) (hr : Room k X.A) (hg : Gl X x) (hm : X.mg x = some (.ref f)) (hk : PySem.W.keepIn X.K (.ref f) = true) (hb : Binds X.K fd ps ds) (hd : Vals dvs ds)
    (hx : Passes CX X E) (ha : PA X (e :: es) t) (hdb : (x == ("__debug__" : Str)) = false := by decide)
    (he : starEach (e :: es) X.env = (false, eval e X.env) :: starEach es X.env := by rfl) (hpl : (backTo pos (starEach es X.env)).any (·.1) = false := by rfl) :
    PE X (.Call (.Name x p) (e :: es) [] pos) (tCall sp dvs E t) := by
  constructor
  intro pins s σ H Q I h
  apply wpAny_Call_Name_kw
  apply ld_glob I hg hm _ hdb
  refine PySem.W.callWith_K (h₀ := X.base) I.ok.mod.kin hk (thn (ha.run pos pins s σ H _ I h) ?_) he hpl
  rintro us s1 ⟨vs, H1, I1, rel, q⟩
  refine ⟨I1.kIn, wpAny_call ?_⟩
  have rel2 : Vals (vs ++ dvs) (us ++ ds) := rel.append hd
  have hl : (us ++ ds).length = ps.length := (rel2.length).symm.trans (F.len _ _ _ _ q)
  have ran := F.go X.A X.stack s1 H1 ⟨us, []⟩ (us ++ ds) (vs ++ dvs) Q E hgd hr I1.env0 (hb s1 us I1.kIn hl) rel2 q
  refine codeAny_mono ran ?_
  intro r s' hq
  match r, hq with
  | .error er, hq => exact hx pins σ H1 s1 er s' I1 hq
  | .ok (.ret u), hq => exact I1.after hq
  | .ok .next, hq => exact False.elim hq
  | .ok .brk, hq => exact False.elim hq
  | .ok .cont, hq => exact False.elim hq
end

/-- the law's def over the heap behind the top -/
theorem lawG {P : Program} {w : World} {K : PySem.W.Frag} {mg mb : Str → Option Value} {CX : CXT} {k : Nat} {fa a : Addr} {fd : FuncData} {x : Str} {sp : Sp} {s₁ : Shared} {us : List Value} {ns : List Int}
    (inK : K.In s₁.heap) (gns : s₁.heap.Ns mainGlobals mg) (bns : s₁.heap.Ns builtinsNs mb) (bbt : ∀ x : Str, x ≠ "__name__" → mb x = bootBuiltins x) (lim : s₁.heap.NoLimit) (gens : s₁.gens = #[])
    (ha : s₁.heap.get? a = some { cls := .type "list", data := .seq us.toArray }) (hi : IntsAre us ns) (hl : ns.length ≤ sizeLine) (room : Room k callerA)
    (F : ∀ base : Heap, K.In base → base.Ns mainGlobals mg → FnG P w K mg base CX k fa fd [x] sp) (bnd : ∀ (s : Shared) (u : Value), BindsTo s fd ⟨[u], []⟩ [(x, u)])
    (hsp : ∀ H : Hp, Only H → SqL K H a (ns.map V.int) → sp [.ref a] H (fun v _ => v = .bl true) fun _ _ _ => False)
    (noX : ∀ H e s', CX [] H s₁ (fun _ _ _ => False) e s' → False) :
    codeAny (model P w) callerA (.call (.ref fa) ⟨[.ref a], []⟩) (fun r s' => r = .ok (.ret (.bool true)) ∧ OldK s₁.heap s'.heap ∧ s'.os = s₁.os ∧ AllBare s'.gens) s₁ := by
  have relI : Vals (ns.map V.int) us := vals_ints hi
  have lenI := hi.length
  suffices main : ∀ H : Hp, Only H → SqL K H a (ns.map V.int) → HOk P w H s₁.heap → (∀ b u, H b = some u → b = a) → (∀ u, H a = some u → K.lookup a = none) →
      codeAny (model P w) callerA (.call (.ref fa) ⟨[.ref a], []⟩) (fun r s' => r = .ok (.ret (.bool true)) ∧ OldK s₁.heap s'.heap ∧ s'.os = s₁.os ∧ AllBare s'.gens) s₁ by
    cases known : K.lookup a with
    | none =>
      let o : Obj := { cls := .type "list", data := .seq us.toArray }
      let H : Hp := fun b => if b = a then some (.frz o (.lst (ns.map V.int))) else none
      have Ha : H a = some (.frz o (.lst (ns.map V.int))) := if_pos rfl
      have Hn : ∀ b, b ≠ a → H b = none := fun b hb => if_neg hb
      apply main H
      · intro b
        by_cases hb : b = a
        · subst hb; exact .inr ⟨_, _, Ha⟩
        · exact .inl (Hn b hb)
      · exact .inl (.inr ⟨o, Ha⟩)
      · intro b u z
        by_cases hb : b = a
        · subst hb
          rw [Ha] at z
          cases z
          exact ⟨ha, by rw [List.length_map]; exact hl, us, _, relI, ha⟩
        · rw [Hn b hb] at z
          cases z
      · intro b u z
        by_cases hb : b = a
        · exact hb
        · rw [Hn b hb] at z
          cases z
      · intro _ _
        exact known
    | some o =>
      have e := inK a o known
      rw [ha] at e
      cases e
      apply main fun _ => none
      · exact fun _ => .inl rfl
      · exact .inr ⟨_, us.toArray, _, known, rfl, rfl, rfl, by rw [List.size_toArray, lenI]; exact hl, by simpa using relI⟩
      · intro b u z; exact nomatch z
      · intro b u z; exact nomatch z
      · intro u z; exact nomatch z
  intro H only sq hok atA noK
  have kept : ∀ {b : Addr} {o : Obj}, s₁.heap.get? b = some o → H b = none → (hidT s₁.heap H).get? b = some o := fun e n => hidT_get e n
  have dictFree : ∀ {b : Addr} {o : Obj} {es : Array DictEntry} {ep : Nat}, s₁.heap.get? b = some o → o.data = .dict es ep → H b = none := by
    intro b o es ep e d
    cases q : H b with
    | none => rfl
    | some u =>
      have hb := atA b u q
      subst hb
      rw [ha] at e
      cases e
      exact nomatch (show Data.seq us.toArray _ = Data.dict es ep from d)
  have nsOf : ∀ {b : Addr} {m : Str → Option Value}, s₁.heap.Ns b m → (hidT s₁.heap H).Ns b m := by
    rintro b m ⟨o, es, ep, e, d, r⟩
    exact ⟨o, es, ep, kept e (dictFree e d), d, r⟩
  have inB : K.In (hidT s₁.heap H) := by
    intro b o e
    apply kept (inK b o e)
    cases q : H b with
    | none => rfl
    | some u =>
      have hb := atA b u q
      subst hb
      rw [noK u q] at e
      cases e
  obtain ⟨mc, l1, l2⟩ := lim
  have md : Mod K mg (hidT s₁.heap H) := ⟨inB, nsOf gns, ⟨mb, nsOf bns, bbt⟩, ⟨mc, nsOf l1, l2⟩⟩
  have none0 : ∀ b : Addr, b ∉ ([] : List Addr) := fun b => List.not_mem_nil
  have en : Env0 P w K mg (hidT s₁.heap H) callerA [] s₁ H :=
    ⟨rfl, md, fun b o e => of_hidT e, Nat.le_of_eq (hidT_size _ _), trivial, fun b hb => absurd hb (none0 b), hok, .of_eq gens⟩
  have ran := (F _ inB (nsOf gns)).go callerA [] s₁ H ⟨[.ref a], []⟩ [.ref a] [.ref a] _ _ rfl room en (bnd s₁ (.ref a)) (.cons rfl .nil) (hsp H only sq)
  refine codeAny_mono ran ?_
  intro r s' h
  match r, h with
  | .error er, h => exact (noX H er s' h).elim
  | .ok .next, h => exact False.elim h
  | .ok .brk, h => exact False.elim h
  | .ok .cont, h => exact False.elim h
  | .ok (.ret u), ⟨v, H', hos, bare, un, hok', rv, q⟩ =>
    have q' : v = .bl true := q
    subst q'
    have ru : u = Value.bool true := rv
    subst ru
    refine ⟨rfl, OldK.of_keep fun b o e => ?_, hos, bare⟩
    rcases only b with z | ⟨ob, xs, z⟩
    · exact un.keep b o e z (none0 b) (none0 b)
    · obtain ⟨e1, _⟩ := hok b _ z
      obtain ⟨e2, _⟩ := hok' b _ (un.frzs b ob _ z)
      exact e2.trans (e1.symm.trans e)

/-- the goal that k_head leaves -/
theorem walkG {l : PySem.W.OpenLaw} {n k : Nat} {q : Program} {loose : List Str} {XP : (Str → Option Value) → Heap → Prop} {YP : World → Heap → Prop} {d : DefRec} {K : Params → PySem.W.Frag} {CX : World → CXT} {sp : World → Sp} {x : Str}
    (hn : l.most = some n) (hz : n ≤ sizeLine) (hdf : d.params.defaults = []) (room : Room k callerA) (hY : ∀ (w : World) (h : Heap), YP w h → (K w.params).In h)
    (F : ∀ (w : World) (mg : Str → Option Value) (fa : Addr) (h : Heap), (K w.params).In h → h.Ns mainGlobals mg → mg d.name = some (.ref fa) →
      ∃ fd : FuncData, (∀ (s : Shared) (u : Value), BindsTo s fd ⟨[u], []⟩ [(x, u)]) ∧ ∀ base : Heap, (K w.params).In base → base.Ns mainGlobals mg → FnG l.prog w (K w.params) mg base (CX w) k fa fd [x] (sp w))
    (hsp : ∀ (w : World) (H : Hp) (a : Addr) (ns : List Int), ns.length ≤ n → Only H → SqL (K w.params) H a (ns.map V.int) → sp w [.ref a] H (fun v _ => v = .bl true) fun _ _ _ => False)
    (noX : ∀ (w : World) (H : Hp) (s : Shared) (e : Value) (s' : Shared), CX w [] H s (fun _ _ _ => False) e s' → False) :
    PySem.W.WalkO q loose XP YP l.row.toRowW d [] (fun f vs => PySem.call f vs) := by
  apply Att.attach_call hn hdf
  intro w s₀ s₁ mg mb fa o pm cd doc a vs ns G Y ho hd hcd hmg hobj hints hlen hg
  have inK := hY w _ Y
  obtain ⟨fd, bnd, hF⟩ := F w mg fa _ inK G.T.g hmg
  exact lawG inK G.T.g G.T.b G.T.builtins G.T.nolimit hg hobj hints (Nat.le_trans hlen hz) room hF bnd (fun H only sq => hsp w H a ns hlen only sq) fun H e s' => noX w H s₁ e s'
end Tg
end
section
set_option Elab.async false
set_option linter.all false
set_option maxRecDepth 100000
set_option maxHeartbeats 4000000
/-! Tg, part B: data that stands still (Rp), and repr of it. -/
namespace Tg
open PySem PySem.Spec PyProof.Rows L2

def kD : Key → PyData
  | .inl i => .int i
  | .inr x => .str x

/-- the hash of None -/
def hNone : Int := reduceHash 0xFCA86420
/-- a dict of None and 1 -/
def NonO (o : Obj) : Prop := o.ExactDict ∧ ∃ (ep : Nat) (t : Tok), o.data = .dict #[⟨hNone, .none, .int 1 t⟩] ep
/-- the object at a is o -/
def NDh (a : Addr) (o : Obj) : HO := .ext fun h => h.get? a = some o
mutual
/-- the value v is the data d, in lists and dicts that are locked for good -/
def Rp (H : Hp) : PyData → V → Prop
  | .none, v => v = .non
  | .bool b, v => v = .bl b
  | .int i, v => v = .int i
  | .str x, v => v = .str x
  | .list ds, v => ∃ a o xs, v = .ref a ∧ H a = some (.frz o (.lst xs)) ∧ RpL H ds xs
  | .tuple ds, v => ∃ a xs, v = .ref a ∧ H a = some (.tup xs) ∧ RpL H ds xs
  | .dict kds, v => (∃ a o kvs, v = .ref a ∧ H a = some (.frz o (.dK kvs)) ∧ RpD H kds kvs) ∨ (kds = [(.none, .int 1)] ∧ ∃ a o, v = .ref a ∧ H a = some (.frz o (NDh a o)) ∧ NonO o ∧ (a == sysModules) = false)
def RpL (H : Hp) : List PyData → List V → Prop
  | [], xs => xs = []
  | d :: ds, xs => ∃ x r, xs = x :: r ∧ Rp H d x ∧ RpL H ds r
def RpD (H : Hp) : List (PyData × PyData) → List (Key × V) → Prop
  | [], kvs => kvs = []
  | (k, d) :: kds, kvs => ∃ ky v r, kvs = (ky, v) :: r ∧ k = kD ky ∧ Rp H d v ∧ RpD H kds r
end

/-- what is locked, and tuples, stand as they stood -/
structure Kp (H H' : Hp) : Prop where
  fz : ∀ b o u, H b = some (.frz o u) → H' b = some (.frz o u)
  tu : ∀ b xs, H b = some (.tup xs) → H' b = some (.tup xs)
  ins : ∀ b C dx fs, H b = some (.ins C dx fs) → H' b = some (.ins C dx fs)
theorem Kp.refl (H : Hp) : Kp H H := ⟨fun _ _ _ e => e, fun _ _ e => e, fun _ _ _ _ e => e⟩
theorem Kp.trans {H H1 H2 : Hp} (a : Kp H H1) (b : Kp H1 H2) : Kp H H2 := ⟨fun c o u e => b.fz c o u (a.fz c o u e), fun c xs e => b.tu c xs (a.tu c xs e), fun c C dx fs e => b.ins c C dx fs (a.ins c C dx fs e)⟩
theorem Kp.same {H H' : Hp} (s : Same H H') : Kp H H' := ⟨fun b o u e => s b _ e, fun b xs e => s b _ e, fun b _ _ _ e => s b _ e⟩
theorem Kp.new {H : Hp} {p : Addr} {o : HO} (n : H p = none) : Kp H (upd H p o) :=
  ⟨fun b ob u e => by rw [upd_ne (ne_of_none e n)]; exact e, fun b xs e => by rw [upd_ne (ne_of_none e n)]; exact e, fun b _ _ _ e => by rw [upd_ne (ne_of_none e n)]; exact e⟩
theorem Kp.put {H : Hp} {p : Addr} {o u : HO} (h : H p = some u) (hf : ∀ ob w, u ≠ .frz ob w) (ht : ∀ xs, u ≠ .tup xs) (hi : ∀ C dx fs, u ≠ .ins C dx fs) : Kp H (upd H p o) :=
  ⟨fun b ob w e => by rw [upd_ne (ne_of e h (fun z => hf ob w z.symm))]; exact e, fun b xs e => by rw [upd_ne (ne_of e h (fun z => ht xs z.symm))]; exact e, fun b C dx fs e => by rw [upd_ne (ne_of e h (fun z => hi C dx fs z.symm))]; exact e⟩

mutual
theorem Rp.keep {H H' : Hp} (k : Kp H H') : ∀ (d : PyData) (v : V), Rp H d v → Rp H' d v
  | .none, v, h => by simpa only [Rp] using h
  | .bool b, v, h => by simpa only [Rp] using h
  | .int i, v, h => by simpa only [Rp] using h
  | .str x, v, h => by simpa only [Rp] using h
  | .list ds, v, h => by
    simp only [Rp] at h ⊢
    obtain ⟨a, o, xs, e, ha, r⟩ := h
    exact ⟨a, o, xs, e, k.fz _ _ _ ha, RpL.keep k ds xs r⟩
  | .tuple ds, v, h => by
    simp only [Rp] at h ⊢
    obtain ⟨a, xs, e, ha, r⟩ := h
    exact ⟨a, xs, e, k.tu _ _ ha, RpL.keep k ds xs r⟩
  | .dict kds, v, h => by
    simp only [Rp] at h ⊢
    rcases h with ⟨a, o, kvs, e, ha, r⟩ | ⟨e0, a, o, e, ha, n⟩
    · exact .inl ⟨a, o, kvs, e, k.fz _ _ _ ha, RpD.keep k kds kvs r⟩
    · exact .inr ⟨e0, a, o, e, k.fz _ _ _ ha, n⟩
theorem RpL.keep {H H' : Hp} (k : Kp H H') : ∀ (ds : List PyData) (xs : List V), RpL H ds xs → RpL H' ds xs
  | [], xs, h => by simpa only [RpL] using h
  | d :: ds, xs, h => by
    simp only [RpL] at h ⊢
    obtain ⟨x, r, e, h1, h2⟩ := h
    exact ⟨x, r, e, Rp.keep k d x h1, RpL.keep k ds r h2⟩
theorem RpD.keep {H H' : Hp} (k : Kp H H') : ∀ (kds : List (PyData × PyData)) (kvs : List (Key × V)), RpD H kds kvs → RpD H' kds kvs
  | [], xs, h => by simpa only [RpD] using h
  | (ky, d) :: ds, xs, h => by
    simp only [RpD] at h ⊢
    obtain ⟨kk, v, r, e, h0, h1, h2⟩ := h
    exact ⟨kk, v, r, e, h0, Rp.keep k d v h1, RpD.keep k ds r h2⟩
end


mutual
/-- a value is at most one data -/
theorem Rp.one {H : Hp} : ∀ (d e : PyData) (v : V), Rp H d v → Rp H e v → d = e
  | .none, e, v, h, k => by
    simp only [Rp] at h; subst h
    cases e <;> simp [Rp] at k ⊢
  | .bool b, e, v, h, k => by
    simp only [Rp] at h; subst h
    cases e <;> simp [Rp] at k ⊢
    exact k
  | .int b, e, v, h, k => by
    simp only [Rp] at h; subst h
    cases e <;> simp [Rp] at k ⊢
    exact k
  | .str b, e, v, h, k => by
    simp only [Rp] at h; subst h
    cases e <;> simp [Rp] at k ⊢
    exact k
  | .list ds, e, v, h, k => by
    simp only [Rp] at h
    obtain ⟨a, o, xs, rfl, ha, r⟩ := h
    cases e with
    | list es =>
      simp only [Rp] at k
      obtain ⟨a', o', xs', e1, ha', r'⟩ := k
      cases e1
      rw [ha] at ha'
      cases ha'
      rw [RpL.one ds es xs r r']
    | tuple es =>
      simp only [Rp] at k
      obtain ⟨a', xs', e1, ha', r'⟩ := k
      cases e1
      rw [ha] at ha'
      cases ha'
    | dict es =>
      simp only [Rp] at k
      rcases k with ⟨a', o', xs', e1, ha', r'⟩ | ⟨_, a', o', e1, ha', _⟩ <;> cases e1 <;> rw [ha] at ha' <;> cases ha'
    | _ => simp [Rp] at k
  | .tuple ds, e, v, h, k => by
    simp only [Rp] at h
    obtain ⟨a, xs, rfl, ha, r⟩ := h
    cases e with
    | list es =>
      simp only [Rp] at k
      obtain ⟨a', o', xs', e1, ha', r'⟩ := k
      cases e1
      rw [ha] at ha'
      cases ha'
    | tuple es =>
      simp only [Rp] at k
      obtain ⟨a', xs', e1, ha', r'⟩ := k
      cases e1
      rw [ha] at ha'
      cases ha'
      rw [RpL.one ds es xs r r']
    | dict es =>
      simp only [Rp] at k
      rcases k with ⟨a', o', xs', e1, ha', r'⟩ | ⟨_, a', o', e1, ha', _⟩ <;> cases e1 <;> rw [ha] at ha' <;> cases ha'
    | _ => simp [Rp] at k
  | .dict ds, e, v, h, k => by
    simp only [Rp] at h
    rcases h with ⟨a, o, xs, rfl, ha, r⟩ | ⟨rfl, a, o, rfl, ha, r⟩
    · cases e with
      | list es =>
        simp only [Rp] at k
        obtain ⟨a', o', xs', e1, ha', r'⟩ := k
        cases e1
        rw [ha] at ha'
        cases ha'
      | tuple es =>
        simp only [Rp] at k
        obtain ⟨a', xs', e1, ha', r'⟩ := k
        cases e1
        rw [ha] at ha'
        cases ha'
      | dict es =>
        simp only [Rp] at k
        rcases k with ⟨a', o', xs', e1, ha', r'⟩ | ⟨_, a', o', e1, ha', _⟩
        · cases e1
          rw [ha] at ha'
          cases ha'
          rw [RpD.one ds es xs r r']
        · cases e1
          rw [ha] at ha'
          cases ha'
      | _ => simp [Rp] at k
    · cases e with
      | list es =>
        simp only [Rp] at k
        obtain ⟨a', o', xs', e1, ha', r'⟩ := k
        cases e1
        rw [ha] at ha'
        cases ha'
      | tuple es =>
        simp only [Rp] at k
        obtain ⟨a', xs', e1, ha', r'⟩ := k
        cases e1
        rw [ha] at ha'
        cases ha'
      | dict es =>
        simp only [Rp] at k
        rcases k with ⟨a', o', xs', e1, ha', r'⟩ | ⟨rfl, a', o', e1, ha', _⟩
        · cases e1
          rw [ha] at ha'
          cases ha'
        · rfl
      | _ => simp [Rp] at k
theorem RpL.one {H : Hp} : ∀ (ds es : List PyData) (xs : List V), RpL H ds xs → RpL H es xs → ds = es
  | [], es, xs, h, k => by
    simp only [RpL] at h; subst h
    cases es with
    | nil => rfl
    | cons e es => simp [RpL] at k
  | d :: ds, es, xs, h, k => by
    simp only [RpL] at h
    obtain ⟨x, r, rfl, h1, h2⟩ := h
    cases es with
    | nil => simp [RpL] at k
    | cons e es =>
      simp only [RpL] at k
      obtain ⟨x', r', e1, k1, k2⟩ := k
      cases e1
      rw [Rp.one d e x h1 k1, RpL.one ds es r h2 k2]
theorem RpD.one {H : Hp} : ∀ (ds es : List (PyData × PyData)) (xs : List (Key × V)), RpD H ds xs → RpD H es xs → ds = es
  | [], es, xs, h, k => by
    simp only [RpD] at h; subst h
    cases es with
    | nil => rfl
    | cons e es => simp [RpD] at k
  | (ky, d) :: ds, es, xs, h, k => by
    simp only [RpD] at h
    obtain ⟨kk, x, r, rfl, h0, h1, h2⟩ := h
    cases es with
    | nil => simp [RpD] at k
    | cons e es =>
      obtain ⟨ky', e⟩ := e
      simp only [RpD] at k
      obtain ⟨kk', x', r', e1, k0, k1, k2⟩ := k
      cases e1
      rw [h0, k0, Rp.one d e x h1 k1, RpD.one ds es r h2 k2]
end

/-- each of these places holds data that is no deeper -/
def Low (H : Hp) (n : Nat) (bs : List Addr) : Prop := ∀ b ∈ bs, ∃ d, Rp H d (.ref b) ∧ d.depth ≤ n
theorem Low.mono {H : Hp} {n m : Nat} {bs : List Addr} (h : Low H n bs) (k : n ≤ m) : Low H m bs := fun b hb => let ⟨d, r, l⟩ := h b hb; ⟨d, r, Nat.le_trans l k⟩
theorem Low.both {H : Hp} {n : Nat} {bs cs : List Addr} (h : Low H n bs) (k : Low H n cs) : Low H n (bs ++ cs) := fun b hb => (List.mem_append.mp hb).elim (h b) (k b)
theorem Low.top {H : Hp} {n : Nat} {a : Addr} {d : PyData} {bs : List Addr} (h : Low H n bs) (r : Rp H d (.ref a)) (k : n < d.depth) : a ∉ bs ∧ Low H d.depth (a :: bs) := by
  constructor
  · intro hm
    obtain ⟨d', r', l⟩ := h a hm
    rw [Rp.one d d' _ r r'] at k
    omega
  · intro b hb
    rcases List.mem_cons.mp hb with rfl | hb
    · exact ⟨d, r, Nat.le_refl _⟩
    · exact (h.mono (Nat.le_of_lt k)) b hb
theorem Low.nil {H : Hp} {n : Nat} : Low H n [] := fun b hb => absurd hb List.not_mem_nil

section
variable {P : Program} {w : World} {H : Hp} {h : Heap}
theorem lst_at (ok : HOk P w H h) {a : Addr} {o : Obj} {xs : List V} (e : H a = some (.frz o (.lst xs))) : ∃ (its : List Value) (n : Nat), Vals xs its ∧ h.get? a = some { cls := .type "list", data := .seq its.toArray n } := by
  obtain ⟨_, _, its, n, r, q⟩ := ok a _ e
  exact ⟨its, n, r, q⟩
theorem tup_at (ok : HOk P w H h) {a : Addr} {xs : List V} (e : H a = some (.tup xs)) : ∃ (its : List Value) (o : Obj) (n : Nat), Vals xs its ∧ h.get? a = some o ∧ o.cls = .type "tuple" ∧ o.data = .seq its.toArray n := by
  obtain ⟨_, its, r, o, e1, e2, n, e3⟩ := ok a _ e
  exact ⟨its, o, n, r, e1, e2, e3⟩
theorem dct_at (ok : HOk P w H h) {a : Addr} {o : Obj} {kvs : List (Key × V)} (e : H a = some (.frz o (.dK kvs))) : (a == sysModules) = false ∧ ∃ (kus : List (Key × Value)) (ob : Obj) (es : Array DictEntry) (n : Nat),
    KV kvs kus ∧ h.get? a = some ob ∧ ob.cls = .type "dict" ∧ ob.data = .dict es n ∧ Pairs (mixKind P w) es.toList kus := by
  obtain ⟨_, _, sm, kus, r, ob, es, n, e1, e2, e3, _, e5, _⟩ := ok a _ e
  exact ⟨sm, kus, ob, es, n, r, e1, e2.1, e3, e5⟩
theorem key_repr {ky : Key} {u : Value} {bs : List Addr} {n : Nat} (e : (mixKind P w).is ky u = true) (hs : (kD ky).showable = true) (hz : (kD ky).shown.length ≤ sizeLine) : ReprK P w bs h n u (kD ky).shown := by
  rcases keyIs_shape (k := ky) (v := u) e with ⟨i, t, rfl, rfl⟩ | ⟨x, t, rfl, rfl⟩
  · simp only [kD, PyData.shown]
    exact .of_is (ReprIs.int t (by simpa [kD, PyData.showable] using hs)) _ _ _
  · simp only [kD, PyData.shown] at hz ⊢
    exact .of_is (ReprIs.str x t hz) _ _ _

theorem non_at (ok : HOk P w H h) {a : Addr} {o : Obj} (e : H a = some (.frz o (NDh a o))) (no : NonO o) : h.get? a = some o ∧ o.cls = .type "dict" ∧ ∃ (ep : Nat) (t : Tok), o.data = .dict #[⟨hNone, .none, .int 1 t⟩] ep := by
  obtain ⟨e1, _⟩ := ok a _ e
  obtain ⟨c, ep, t, dd⟩ := no
  exact ⟨e1, c.1, ep, t, dd⟩
theorem non_entries {bs : List Addr} {n : Nat} {t : Tok} : ReprEntriesK P w bs h n (#[(⟨hNone, .none, .int 1 t⟩ : DictEntry)]).toList (PyData.shownKv [(.none, .int 1)]) := by
  simp only [PyData.shownKv, PyData.shown]
  exact .cons (.of_is ReprIs.none _ _ _) (.of_is (ReprIs.int t (by decide)) _ _ _) .nil

theorem dText_mem {ps : List Str} {p : Str} (h : p ∈ ps) : p.length ≤ (dictText ps).length := dictText_mem_le h

theorem entries_more {as as' : List Addr} {d d' : Nat} (hsub : ∀ b ∈ as, b ∈ as') (hd : d ≤ d') : ∀ {l : List DictEntry} {ts : List Str}, ReprEntriesK P w as h d l ts → ReprEntriesK P w as' h d' l ts
  | _, _, .nil => .nil
  | _, _, .cons hk hv hl => .cons ((hk.more hsub).level_le hd) ((hv.more hsub).level_le hd) (entries_more hsub hd hl)

mutual
theorem Rp.repr (ok : HOk P w H h) : ∀ (d : PyData) (v : V) (u : Value), Rp H d v → RelV v u → d.showable = true → d.shown.length ≤ sizeLine →
    ∃ bs, Low H d.depth bs ∧ ReprK P w bs h d.depth u d.shown
  | .none, v, u, r, rv, _, _ => by
    simp only [Rp] at r; subst r; cases rv
    refine ⟨[], Low.nil, ?_⟩
    simp only [PyData.shown]
    exact .of_is ReprIs.none _ _ _
  | .bool b, v, u, r, rv, _, _ => by
    simp only [Rp] at r; subst r; cases rv
    refine ⟨[], Low.nil, ?_⟩
    simp only [PyData.shown]
    exact .of_is (ReprIs.bool b) _ _ _
  | .int i, v, u, r, rv, hs, _ => by
    simp only [Rp] at r; subst r
    obtain ⟨t, rfl⟩ := rv
    refine ⟨[], Low.nil, ?_⟩
    simp only [PyData.shown]
    exact .of_is (ReprIs.int t (by simpa [PyData.showable] using hs)) _ _ _
  | .str x, v, u, r, rv, _, hz => by
    simp only [Rp] at r; subst r
    obtain ⟨t, rfl⟩ := rv
    refine ⟨[], Low.nil, ?_⟩
    simp only [PyData.shown] at hz ⊢
    exact .of_is (ReprIs.str x t hz) _ _ _
  | .list ds, v, u, r, rv, hs, hz => by
    have r0 := r
    simp only [Rp] at r
    obtain ⟨a, o, xs, rfl, ha, rl⟩ := r
    cases rv
    obtain ⟨its, n, vl, e1⟩ := lst_at ok ha
    simp only [PyData.shown] at hz
    obtain ⟨bs, lo, k⟩ := RpL.repr ok ds xs its rl vl (by simpa [PyData.showable] using hs) fun t ht => Nat.le_trans (listText_mem_le ht) hz
    obtain ⟨na, lo'⟩ := lo.top r0 (by simp only [PyData.depth]; omega)
    refine ⟨a :: bs, lo', ?_⟩
    simp only [PyData.depth, PyData.shown]
    cases its with
    | nil =>
      generalize hq : PyData.shownAll ds = ts at k
      cases k
      simp only [listText_nil]
      exact ReprK.listEmpty e1 rfl rfl
    | cons x l => exact ReprK.list e1 rfl rfl na (by simpa using k.length_eq) (fun i y e => k.item i y (by simpa using e))
  | .tuple ds, v, u, r, rv, hs, hz => by
    have r0 := r
    simp only [Rp] at r
    obtain ⟨a, xs, rfl, ha, rl⟩ := r
    cases rv
    obtain ⟨its, o, n, vl, e1, e2, e3⟩ := tup_at ok ha
    simp only [PyData.shown] at hz
    obtain ⟨bs, lo, k⟩ := RpL.repr ok ds xs its rl vl (by simpa [PyData.showable] using hs) fun t ht => Nat.le_trans (tupleText_mem_le ht) hz
    obtain ⟨na, lo'⟩ := lo.top r0 (by simp only [PyData.depth]; omega)
    refine ⟨a :: bs, lo', ?_⟩
    simp only [PyData.depth, PyData.shown]
    exact ReprK.tuple e1 e2 e3 na k
  | .dict kds, v, u, r, rv, hs, hz => by
    have r0 := r
    simp only [Rp] at r
    rcases r with ⟨a, o, kvs, rfl, ha, rl⟩ | ⟨rfl, a, o, rfl, ha, no, sm⟩
    · cases rv
      obtain ⟨sm, kus, ob, es, n, kv, e1, e2, e3, pr⟩ := dct_at ok ha
      simp only [PyData.shown] at hz
      obtain ⟨bs, lo, k⟩ := RpD.repr ok kds kvs es.toList kus rl kv pr (by simpa [PyData.showable] using hs) fun t ht => Nat.le_trans (dictText_mem_le ht) hz
      obtain ⟨na, lo'⟩ := lo.top r0 (by simp only [PyData.depth]; omega)
      refine ⟨a :: bs, lo', ?_⟩
      simp only [PyData.depth, PyData.shown]
      exact ReprK.dict e1 e2 e3 sm na k
    · cases rv
      obtain ⟨e1, e2, ep, t, e3⟩ := non_at ok ha no
      refine ⟨[a], fun b hb => ?_, ?_⟩
      · cases List.mem_singleton.mp hb
        exact ⟨_, r0, Nat.le_refl _⟩
      · simp only [PyData.depth, PyData.shown]
        exact ReprK.dict e1 e2 e3 sm (by simp) non_entries
theorem RpL.repr (ok : HOk P w H h) : ∀ (ds : List PyData) (xs : List V) (us : List Value), RpL H ds xs → Vals xs us → PyData.showableAll ds = true → (∀ t ∈ PyData.shownAll ds, t.length ≤ sizeLine) →
    ∃ bs, Low H (PyData.depthAll ds) bs ∧ ReprAllK P w bs h (PyData.depthAll ds) us (PyData.shownAll ds)
  | [], xs, us, r, vl, _, _ => by
    simp only [RpL] at r; subst r
    cases vl
    exact ⟨[], Low.nil, by simp only [PyData.shownAll]; exact .nil⟩
  | d :: ds, xs, us, r, vl, hs, hz => by
    simp only [RpL] at r
    obtain ⟨x, l, rfl, r1, r2⟩ := r
    cases vl with
    | cons v1 v2 =>
      have hs' : d.showable = true ∧ PyData.showableAll ds = true := by simpa [PyData.showableAll] using hs
      obtain ⟨b1, l1, k1⟩ := Rp.repr ok d x _ r1 v1 hs'.1 (hz _ (by simp [PyData.shownAll]))
      obtain ⟨b2, l2, k2⟩ := RpL.repr ok ds l _ r2 v2 hs'.2 fun t ht => hz t (by simp [PyData.shownAll, ht])
      simp only [PyData.depthAll, PyData.shownAll]
      exact ⟨b1 ++ b2, (l1.mono (by omega)).both (l2.mono (by omega)),
        .cons ((k1.more fun b hb => List.mem_append_left _ hb).level_le (by omega)) (k2.more_le (fun b hb => List.mem_append_right _ hb) (by omega))⟩
theorem RpD.repr (ok : HOk P w H h) : ∀ (kds : List (PyData × PyData)) (kvs : List (Key × V)) (es : List DictEntry) (kus : List (Key × Value)), RpD H kds kvs → KV kvs kus → Pairs (mixKind P w) es kus →
    PyData.showableKv kds = true → (∀ t ∈ PyData.shownKv kds, t.length ≤ sizeLine) → ∃ bs, Low H (PyData.depthKv kds) bs ∧ ReprEntriesK P w bs h (PyData.depthKv kds) es (PyData.shownKv kds)
  | [], kvs, es, kus, r, kv, pr, _, _ => by
    simp only [RpD] at r; subst r
    cases kv
    cases pr
    exact ⟨[], Low.nil, by simp only [PyData.shownKv]; exact .nil⟩
  | (k, d) :: kds, kvs, es, kus, r, kv, pr, hs, hz => by
    simp only [RpD] at r
    obtain ⟨ky, x, l, rfl, rfl, r1, r2⟩ := r
    cases kv with
    | @cons _ q _ kus' v1 v2 =>
      obtain ⟨e1, rv⟩ := v1
      cases pr with
      | @cons en _ es' _ p1 p2 p3 =>
        have hs' : ((kD ky).showable = true ∧ d.showable = true) ∧ PyData.showableKv kds = true := by simpa [PyData.showableKv] using hs
        have hz0 : ((kD ky).shown ++ ": " ++ d.shown).length ≤ sizeLine := hz _ (by simp [PyData.shownKv])
        rw [strLen_append, strLen_append] at hz0
        obtain ⟨b1, l1, k1⟩ := Rp.repr ok d x en.val r1 (by rw [p2]; exact rv) hs'.1.2 (by omega)
        obtain ⟨b2, l2, k2⟩ := RpD.repr ok kds l es' kus' r2 v2 p3 hs'.2 fun t ht => hz t (by simp [PyData.shownKv, ht])
        have k0 : ReprK P w (b1 ++ b2) h (PyData.depthKv ((kD ky, d) :: kds)) en.key (kD ky).shown := key_repr (by rw [← e1] at p1; exact p1) hs'.1.1 (by omega)
        simp only [PyData.depthKv, PyData.shownKv] at k0 ⊢
        refine ⟨b1 ++ b2, (l1.mono (by omega)).both (l2.mono (by omega)), .cons k0 ((k1.more fun b hb => List.mem_append_left _ hb).level_le (by omega)) ?_⟩
        exact entries_more (fun b hb => List.mem_append_right _ hb) (by omega) k2
end
end
end Tg
end
section
set_option Elab.async false
set_option linter.all false
set_option maxRecDepth 100000
set_option maxHeartbeats 4000000
/-! Tg, part C: rules: repr, locking for good, ** of great ints. -/
namespace Tg
open PySem PySem.Spec PyProof.Rows L2

section
variable {X : Cx}
def rRepr (A : Around) : List V → Hp → VK → Prop := fun xs H Q => ∃ (d : PyData) (v : V), xs = [v] ∧ Rp H d v ∧ d.showable = true ∧ d.shown.length ≤ sizeLine ∧ A.units + d.depth + 2 < cLine ∧ Q (.str d.shown) H
/-- repr(e) of data -/
theorem call_reprD (hg : X.A.guards = some []) : CallR X (.builtin "repr") (rRepr X.A) := by
  rintro pins s σ H xs us Q I rel ⟨d, v, rfl, r, hs, hz, hu, q⟩
  obtain ⟨u, rfl, rv⟩ := vals1 rel
  have fin : ∀ (h' : Heap) (t : Tok) (tk : Nat), (∀ b o, s.heap.get? b = some o → h'.get? b = some o) → EP X pins σ Q (.str d.shown t) { s with heap := h', toks := tk } :=
    fun h' t tk k => ⟨.str d.shown, H, I.kept k, ⟨t, rfl⟩, q⟩
  cases d with
  | none =>
    simp only [Rp] at r; subst r; cases rv
    simp only [PyData.shown] at fin
    exact PySem.P.repr_of_none (fin _ _ _ fun _ _ e => e)
  | bool b =>
    simp only [Rp] at r; subst r; cases rv
    simp only [PyData.shown] at fin
    exact PySem.P.repr_of_bool (fin _ _ _ fun _ _ e => e)
  | int i =>
    simp only [Rp] at r; subst r
    obtain ⟨t, rfl⟩ := rv
    simp only [PyData.shown] at fin
    exact PySem.P.repr_of_int (by simpa [PyData.showable] using hs) (fin _ _ _ fun _ _ e => e)
  | str x =>
    simp only [Rp] at r; subst r
    obtain ⟨t, rfl⟩ := rv
    simp only [PyData.shown] at fin hz
    exact PySem.P.repr_of_str (fin _ _ _ fun _ _ e => e) hz
  | list ds =>
    have r0 := r
    simp only [Rp] at r
    obtain ⟨a, o, ys, rfl, ha, rl⟩ := r
    cases rv
    obtain ⟨its, n, vl, e1⟩ := lst_at I.hok ha
    simp only [PyData.shown] at hz fin
    simp only [PyData.depth] at hu
    obtain ⟨bs, lo, k⟩ := RpL.repr I.hok ds ys its rl vl (by simpa [PyData.showable] using hs) fun t ht => Nat.le_trans (listText_mem_le ht) hz
    obtain ⟨na, _⟩ := lo.top r0 (by simp only [PyData.depth]; omega)
    refine call_repr_slot (by omega) ⟨_, e1, rfl⟩ F.slot_list_repr.toG ?_
    cases its with
    | nil =>
      generalize hq : PyData.shownAll ds = ts at k fin
      cases k
      simp only [listText_nil] at fin
      exact call_list_repr_empty ⟨_, e1, rfl⟩ e1 rfl ⟨_, _, rfl, fin _ _ _ fun _ _ e => e⟩
    | cons x l =>
      exact call_list_reprK e1 rfl rfl na (by simpa using k.length_eq) (fun i y e => k.item i y (by simpa using e)) hg (fun b _ => Clear.nil b) (by show X.A.units + 1 + _ < cLine; omega) (fun _ _ e => e) (fun h' t tk kk => ⟨_, _, rfl, fin h' t tk kk⟩) hz
  | tuple ds =>
    have r0 := r
    simp only [Rp] at r
    obtain ⟨a, ys, rfl, ha, rl⟩ := r
    cases rv
    obtain ⟨its, o, n, vl, e1, e2, e3⟩ := tup_at I.hok ha
    simp only [PyData.shown] at hz fin
    simp only [PyData.depth] at hu
    obtain ⟨bs, lo, k⟩ := RpL.repr I.hok ds ys its rl vl (by simpa [PyData.showable] using hs) fun t ht => Nat.le_trans (tupleText_mem_le ht) hz
    obtain ⟨na, _⟩ := lo.top r0 (by simp only [PyData.depth]; omega)
    refine call_repr_slot (by omega) ⟨_, e1, e2⟩ F.slot_tuple_repr ?_
    exact call_tuple_reprK e1 e2 e3 na k hg (fun b _ => Clear.nil b) (by show X.A.units + 1 + _ < cLine; omega) (fun _ _ e => e) (fun h' t tk kk => ⟨_, _, rfl, fin h' t tk kk⟩) hz
  | dict kds =>
    have r0 := r
    simp only [Rp] at r
    rcases r with ⟨a, o, kvs, rfl, ha, rl⟩ | ⟨rfl, a, o, rfl, ha, no, sm⟩
    · cases rv
      obtain ⟨sm, kus, ob, es, n, kv, e1, e2, e3, pr⟩ := dct_at I.hok ha
      simp only [PyData.shown] at hz fin
      simp only [PyData.depth] at hu
      obtain ⟨bs, lo, k⟩ := RpD.repr I.hok kds kvs es.toList kus rl kv pr (by simpa [PyData.showable] using hs) fun t ht => Nat.le_trans (dictText_mem_le ht) hz
      obtain ⟨na, _⟩ := lo.top r0 (by simp only [PyData.depth]; omega)
      refine call_repr_slot (by omega) ⟨_, e1, e2⟩ F.slot_dict_repr ?_
      exact call_dict_reprK e1 e2 e3 sm na k hg (fun b _ => Clear.nil b) (by show X.A.units + 1 + _ < cLine; omega) (fun _ _ e => e) (fun h' t tk kk => ⟨_, _, rfl, fin h' t tk kk⟩) hz
    · cases rv
      obtain ⟨e1, e2, ep, t, e3⟩ := non_at I.hok ha no
      simp only [PyData.shown] at hz fin
      simp only [PyData.depth] at hu
      refine call_repr_slot (by omega) ⟨_, e1, e2⟩ F.slot_dict_repr ?_
      exact call_dict_reprK (as := []) e1 e2 e3 sm (by simp) (non_entries (n := 0)) hg (fun b _ => Clear.nil b) (by show X.A.units + 1 + _ < cLine; omega) (fun _ _ e => e) (fun h' t tk kk => ⟨_, _, rfl, fin h' t tk kk⟩) hz

/-- what e gives is locked for good -/
def tFz (t : TE) : TE := fun σ H Q => t σ H fun v H1 => ∃ p u, v = .ref p ∧ H1 p = some u ∧ Mut (some u) ∧ ∀ o, Q v (upd H1 p (.frz o u))
theorem pe_fz {e : Expr} {t : TE} (h : PE X e t) : PE X e (tFz t) := by
  constructor
  intro pins s σ H Q I q
  refine thn (h.run pins s σ H _ I q) ?_
  rintro v s1 ⟨x, H1, I1, rv, p, u, rfl, hp, mu, q⟩
  obtain ⟨o, I2⟩ := I1.lock hp mu
  exact ⟨.ref p, _, I2, rv, q o⟩

/-- ** of a great base -/
def CPowW (i j : Int) : Prop := 0 ≤ j ∧ (Builtin.Int.intBits i : Int) * j ≤ 2 ^ 27
theorem op_powW : OpR X (binaryOp .Pow) (rI CPowW fun i j => .int (i ^ j.toNat)) := by
  refine opI fun i j t u s Q E hc q => ?_
  exact pow_int hc.1 hc.2 q
end
end Tg
end
section
set_option Elab.async false
set_option linter.all false
set_option maxRecDepth 100000
set_option maxHeartbeats 4000000
/-! Tg, part D: an own error over ValueError whose __init__ says super().__init__(value); self.value = value. -/
namespace Tg
open PySem PySem.Spec PyProof.Rows L2

/-- super().__init__(value); self.value = value -/
abbrev iBody : List Stmt :=
  [.Expr (.Call (.Attribute (.Call (.Name "super" ⟨5, 8, 5, 13⟩) [] [] ⟨5, 8, 5, 15⟩) "__init__" ⟨5, 8, 5, 24⟩) [.Name "value" ⟨5, 25, 5, 30⟩] [] ⟨5, 8, 5, 31⟩) ⟨5, 8, 5, 31⟩,
    .Assign [.Attribute (.Name "self" ⟨6, 8, 6, 12⟩) "value" ⟨6, 8, 6, 18⟩] (.Name "value" ⟨6, 21, 6, 26⟩) ⟨6, 8, 6, 26⟩]
abbrev iArgs : Arguments := { posonlyargs := [], args := [{ arg := "self", annotation := none, pos := ⟨4, 17, 4, 21⟩ }, { arg := "value", annotation := none, pos := ⟨4, 23, 4, 28⟩ }], vararg := none, kwonlyargs := [], kw_defaults := [], kwarg := none, defaults := [] }
abbrev iScope : Scope := { kind := .function, names := [("self", .local), ("value", .local), ("__class__", .free), ("super", .globalImplicit)], isGenerator := false, isCoroutine := false, more := [] }
abbrev iFn (ql : Str) (dV kV dc pm : Value) (an : Option Addr) (cda : Addr) (ct : Value) (cc : Addr) : FuncData := PySem.W.ksFn "__init__" ql iArgs iBody iScope dV kV dc pm an (.ref cda) ct cc

section
open PySem.W PySem.Calls
variable {P : Program} {w : World} {A : Around} {E : Value → Shared → Prop} {h : Heap} {g : Array GenState} {d : Drawn} {t : Nat} {os : OsState}
/-- the built-in __init__, bound to an error, called -/
theorem call_veb {B i newId : String} {bmB : List Value} {nm q : Str} {C N u e t0 : Addr} {bs bm : List Value} {hd : Bool} {sn : List Str} {sub : List Value} {ab : Bool} {col : Option Bool} {dd : Option Addr} {k0 k1 k2 k3 k5 : Option Value} {rest : List Value} {Q : Value → Shared → Prop}
    (FB : ExcBaseFacts B newId i bmB) (hC : h.get? C = some (excClassObj nm q C N bs bm hd sn sub ab col dd k0 k1 k2 k3 k5 newId)) (he : h.get? e = some (HandSPX.excO C t0)) (hu : h.get? u = some (kxs_mw i e)) (hz : rest.length ≤ sizeLine)
    (hq : ∀ h' t1, (∀ b o, b ≠ e → h.get? b = some o → h'.get? b = some o) → h'.get? e = some (HandSPX.excO C t1) → Q .none ⟨h', g, d, t, os⟩) :
    wpAny (model P w) A (call (.ref u) rest) Q E ⟨h, g, d, t, os⟩ := by
  refine wpAny_call (codeAny_of_tree ?_)
  show wpAny _ A.in1 (callAny (.ref u) ⟨rest, []⟩) _ _ _
  simp only [callAny]
  refine wpAny_bind (wpAny_load hu ?_)
  have mw : (Value.type "method-wrapper" == Value.type "method" || Value.type "method-wrapper" == Value.type "builtin_function_or_method" || Value.type "method-wrapper" == Value.type "method-wrapper") = true := by decide
  simp only [kxs_mw, mw, if_true]
  refine KFB.if_so (by decide) ?_
  refine wpAny_bind (check_bound_init FB.toExcCallFacts hC he rfl ?_)
  refine wpAny_bind (wpAny_pure (wpAny_pure ?_))
  refine ⟨plainId_quiet FB.init.plain _, codeAny_builtin FB.initEntry ?_⟩
  exact exc_init_tree (cls := .ref C) (t0 := t0) (dv := none) (c2 := .none) (c3 := .none) (b4 := .bool false) he hz fun h' k e' _ => hq h' h.objs.size k e'
end

section
open PySem.W PySem.Calls
variable {P : Program} {w : World} {A : Around} {R : Result → Shared → Prop} {s : Shared} {K : Frag} {mg mb : Str → Option Value}
/-- that __init__ at a new error -/
theorem init_run {f cc cda D C e t1 : Addr} {u : Value} {ql file : Str} {dV kV dc pm ct oc ccl cl : Value} {an od cdd cld : Option Addr} {sl ccs csl : Array (Option Value)} {vs : Array Value} {tf : Tok} {cdD : ClassData} {ag : Args}
    {nm q : Str} {N : Addr} {bs bm : List Value} {sn : List Str} {sub : List Value} {ab : Bool} {col : Option Bool} {dd : Option Addr} {k0 k1 k2 k3 k5 : Option Value}
    (X : K.In s.heap) (room : A.depth < recursionLimit) (lim : s.heap.NoLimit) (gns : s.heap.Ns mainGlobals mg) (hsu : mg "super" = none) (bns : s.heap.Ns builtinsNs mb) (bbt : ∀ x : Str, x ≠ "__name__" → mb x = bootBuiltins x)
    (lk : K.lookup f = some ⟨oc, od, .func (iFn ql dV kV dc pm an cda ct cc), sl⟩) (hcd : codeIn K (.ref cda) ql = true)
    (hcode : K.lookup cda = some ⟨ccl, cdd, .fields vs, ccs⟩) (hvs : vs[2]? = some (.str file tf)) (hfile : ((P.main.file : Str) == file) = true) (htop : (P.main.scope.names.lookup ("super" : Str)).isSome = false)
    (hcell : K.lookup cc = some ⟨cl, cld, .cell (some (.ref D)), csl⟩) (hD : clsIn K D = some cdD)
    (hC : K.lookup C = some (excClassObj nm q C N bs bm true sn sub ab col dd k0 k1 k2 k3 k5 "ValueError.__new__")) (hbm : HandSPX.refsVE bm = true) (hsub : mroIn K C (.ref D) = some true) (hsp : ks_superIn K C D "__init__" = some (some (.builtin "ValueError.__init__")))
    (h3 : nsIn K cStatics "thirdparty.any" = some none) (hve : subIn K (.ref C) (.type "ValueError") = some true) (hsa : findIn K (.ref C) "__setattr__" = some (some (.builtin "object.__setattr__"))) (hno : findIn K (.ref C) "value" = some none)
    (he : s.heap.get? e = some (HandSPX.excO C t1)) (hnk : K.lookup e = none) (hb : BindsTo s (iFn ql dV kV dc pm an cda ct cc) ag [("self", .ref e), ("value", u)])
    (hq : ∀ s' dx t2, s'.os = s.os → s'.gens = s.gens → (∀ b o, b ≠ e → s.heap.get? b = some o → s'.heap.get? b = some o) → s.heap.objs.size ≤ dx → dx ≠ e →
      s'.heap.get? e = some { cls := .ref C, dict := some dx, data := .fields #[.ref t2, .none, .none, .none, .bool false, .none] } → s'.heap.Ns1 dx (fun y => if y = "value" then some u else none) → R (.ok (.ret .none)) s') :
    codeAny (model P w) A (.call (.ref f) ag) R s := by
  have hcl : clsIn K C = some { name := nm, bases := bs, mro := .ref C :: bm, ns := N, qualname := q, hasDict := true, slotNames := sn, subclasses := sub, abstract := ab, collection := col, hasDel := false } := by
    unfold clsIn; rw [hC] <;> rfl
  obtain ⟨hh, g, dr, t, os⟩ := s
  have eL : e ≠ hh.objs.size := Nat.ne_of_lt (Heap.lt_size he)
  refine ks_codeAny_call_defAt (fd := iFn ql dV kV dc pm an cda ct cc) (binds := [("self", .ref e), ("value", u)]) room (X _ _ lk) rfl lim (codeRec_of X hcd) rfl hb (fun x hx => ?_) (fun x hx => ?_) (fun h₁ hns hk => ?_)
  · have hx' : x ∈ ([("self", .local), ("value", .local), ("__class__", .free), ("super", .globalImplicit)] : List (Str × NameKind)) := hx
    simp only [List.mem_cons, List.not_mem_nil, or_false] at hx'
    rcases hx' with rfl | rfl | rfl | rfl <;> exact fun z => nomatch z
  · rcases List.mem_cons.mp hx with rfl | hx
    · rfl
    · rcases List.mem_cons.mp hx with rfl | hx
      · rfl
      · exact absurd hx List.not_mem_nil
  have X1 : K.In h₁ := fun b o z => hk b o (X b o z)
  have e1 : h₁.get? e = some (HandSPX.excO C t1) := hk _ _ he
  obtain ⟨oD, hD1, hD2⟩ : ∃ oD, h₁.get? D = some oD ∧ oD.data = .cls cdD := by
    unfold clsIn at hD
    split at hD
    · rename_i c d cd' sl ho
      cases hD
      exact ⟨_, X1 _ _ ho, rfl⟩
    · cases hD
  refine ks_wpAt_execs_cons (ks_wpAt_Expr_any (ks_wpAt_MethodCall ?_))
  refine ks_wpAt_super_base (env := ksEnv ql iScope hh.objs.size f (.ref cda) cc) rfl rfl (by decide) rfl (X1 _ _ lk) rfl rfl rfl (X1 _ _ hcode) rfl hvs hfile htop ?_
  refine ks_loadName_global rfl rfl (loadGlobal_builtin (env := ksEnv ql iScope hh.objs.size f (.ref cda) cc) (gns.keeps hk) hsu (bns.keeps hk) ((bbt _ (by decide +kernel)).trans PyProof.Rows.Boot.super) ⟨rfl, ?_⟩)
  refine wpAny_loadName_free rfl rfl rfl ⟨_, X1 _ _ hcell, rfl⟩ ?_
  refine wpAny_loadName_local (v := .ref e) rfl rfl hns rfl ?_
  refine ks_wpAny_isType_cls hD1 hD2 ⟨rfl, ?_⟩
  refine ks_wpAny_call_super hD1 hD2 e1 rfl (fun c z => nomatch z) (looks_mroIn X1 hsub) (fun h₂ so k2 => ?_)
  -- the method
  have X2 : K.In h₂ := fun b o z => k2 b o (X1 b o z)
  have e2 : h₂.get? e = some (HandSPX.excO C t1) := k2 _ _ e1
  have I2 : InstAt h₂ e (HandSPX.excO C t1) C none := ⟨e2, rfl, rfl, trivial⟩
  have eC : e ≠ C := ks_ne X2 I2 hcl
  have hm : alongIn K "__init__" (((Value.ref C :: bm).dropWhile (· != .ref D)).drop 1) = some (some (.builtin "ValueError.__init__")) := by
    have z := hsp
    unfold ks_superIn at z
    rw [hcl] at z
    exact z
  refine kxs_getMethod kxs_ValueError so (looks_opaque X2 h3) (l₀ := Value.ref C :: bm) ((looks_clsIn X2 hcl).andThen .now) rfl X2 hm (I2.type.andThen (looks_subIn X2 hve)) eC (by decide) ?_
  -- the call of the bound one
  dsimp only
  refine kxs_callWith (i := "ValueError.__init__") (x := e) rfl ?_
  have hns2 := hns.keeps k2
  have k3 : ∀ b o, h₂.get? b = some o → (h₂.push (kxs_mw "ValueError.__init__" e)).get? b = some o := fun b o z => Heap.get?_push_of_some _ z
  have hu : (h₂.push (kxs_mw "ValueError.__init__" e)).get? h₂.objs.size = some (kxs_mw "ValueError.__init__" e) := Heap.get?_push_at rfl rfl
  refine evalArgs_plain (spliced_cons ?_)
  refine wpAny_Name (wpAny_loadName_local (v := u) rfl rfl (hns2.keeps k3) rfl ?_) (by decide)
  refine spliced_nil ⟨hu, ?_⟩
  refine call_veb F.excBase_ValueError (k3 _ _ (X2 _ _ hC)) (k3 _ _ e2) hu (by show 1 ≤ sizeLine; decide) fun h₃ t2 k4 e3 => ?_
  -- self.value = value
  have k34 : ∀ b o, b ≠ e → h₂.get? b = some o → h₃.get? b = some o := fun b o hb z => k4 b o hb (k3 b o z)
  have hns3 := hns2.at (h' := h₃) fun o z => k34 _ o (Ne.symm eL) z
  have hC2 : h₂.get? C = _ := X2 _ _ hC
  have X3 : K.In h₃ := fun b o z => k34 b o (fun y => by
    rw [y] at z
    rw [hnk] at z
    cases z) (X2 b o z)
  refine ks_wpAt_execs_cons (ks_wpAt_Assign_Attr ?_)
  refine wpAt_of_wpAny (wpAny_Name (wpAny_loadName_local (v := u) rfl rfl hns3 rfl ?_) (by decide))
  refine wpAny_Name (wpAny_loadName_local (v := .ref e) rfl rfl hns3 rfl ?_) (by decide)
  refine set_plain X3 (ox := HandSPX.excO C t2) (od := none) ⟨e3, rfl, rfl, trivial⟩ hsa ?_
  refine HandSPX.exc_osa X3 e3 hcl (show HandSPX.refsVE (.ref C :: bm) = true from hbm) rfl hno (fun h₄ tk dx k5 dn dne hx hn => ?_)
  refine wpAt_of_wpAny (wpAny_execs_nil ?_)
  refine hq _ dx t2 rfl rfl (fun b o hb z => k5 b o hb (k34 b o hb (k2 b o (hk b o z)))) ?_ dne hx hn
  have l0 : hh.objs.size < h₃.objs.size := hns3.lt
  exact Nat.le_trans (Nat.le_of_lt l0) dn
end
end Tg
end
section
set_option Elab.async false
set_option linter.all false
set_option maxRecDepth 100000
set_option maxHeartbeats 4000000
/-! Tg, part E: such errors in the layer: made as values, raised, asked for their class and their value. -/
namespace Tg
open PySem PySem.Spec PyProof.Rows L2

/-- the class at C is such an error (its __init__ the def at fI, of the class at D) -/
structure ErrC (K : PySem.W.Frag) (fI D C : Addr) : Prop where
  ox : OexC K C
  ini : PySem.W.findIn K (.ref C) "__init__" = some (some (.ref fI))
  sub : PySem.W.mroIn K C (.ref D) = some true
  sup : PySem.W.ks_superIn K C D "__init__" = some (some (.builtin "ValueError.__init__"))
  ve : PySem.W.subIn K (.ref C) (.type "ValueError") = some true
  no : PySem.W.findIn K (.ref C) "value" = some none
  xc : ExcC K C

def clsB (K : PySem.W.Frag) (C : Addr) : Bool := match K.lookup C with
  | some ⟨.type "type", _, .cls cd, sl⟩ => (match cd.mro, sl.toList with
    | .ref C' :: bm, [_, _, _, _, some (.builtin n), _] => C' == C && n == "ValueError.__new__" && !cd.hasDel && cd.hasDict && PySem.HandSPX.refsVE bm
    | _, _ => false)
  | _ => false
theorem clsB_ok {K : PySem.W.Frag} {C : Addr} (z : clsB K C = true) : ∃ nm q N bs bm sn sub ab col dd k0 k1 k2 k3 k5,
    K.lookup C = some (excClassObj nm q C N bs bm true sn sub ab col dd k0 k1 k2 k3 k5 "ValueError.__new__") ∧ PySem.HandSPX.refsVE bm = true := by
  unfold clsB at z
  split at z
  · rename_i dd cd sl ho
    split at z
    · rename_i C' bm k0 k1 k2 k3 n k5 hm hs
      simp only [Bool.and_eq_true, beq_iff_eq, Bool.not_eq_true'] at z
      obtain ⟨⟨⟨⟨rfl, rfl⟩, hdel⟩, hdct⟩, hr⟩ := z
      cases cd with
      | mk nm bs mro ns qn hd sn sub ab col del =>
        dsimp only at hm hdel hdct
        subst hm hdel hdct
        cases sl with
        | mk l =>
          simp only at hs
          subst hs
          exact ⟨_, _, _, _, _, _, _, _, _, _, _, _, _, _, _, ho, hr⟩
    · cases z
  · cases z
/-- all that is asked of the class, by one look -/
def errB (K : PySem.W.Frag) (fI D C : Addr) : Bool :=
  clsB K C && decide (PySem.W.findIn K (.ref C) "__setattr__" = some (some (.builtin "object.__setattr__"))) && decide (PySem.W.subIn K (.ref C) (.type "BaseException") = some true) && decide (PySem.W.typeIn K (.ref C) = some (.type "type")) &&
  PySem.W.keepIn K (.ref C) && decide (PySem.W.findIn K (.ref C) "__init__" = some (some (.ref fI))) && decide (PySem.W.mroIn K C (.ref D) = some true) && decide (PySem.W.ks_superIn K C D "__init__" = some (some (.builtin "ValueError.__init__"))) &&
  decide (PySem.W.subIn K (.ref C) (.type "ValueError") = some true) && decide (PySem.W.findIn K (.ref C) "value" = some none) &&
  decide (PySem.W.findIn K (.ref C) "__getattribute__" = some (some (.builtin "BaseException.__getattribute__"))) && decide (PySem.W.findIn K (.ref C) "__getattr__" = some none) && PySem.W.hasDictIn K C &&
  decide (PySem.W.findIn K (.ref C) "__class__" = some (some (.builtin "object.__class__"))) && decide (PySem.W.specialIn K (.builtin "object.__class__") "__get__" = some (some (.builtin "getset_descriptor.__get__"))) &&
  decide (PySem.W.takesIn K (.builtin "object.__class__") = some true) && decide (PySem.W.mroIn K C (.type "object") = some true)
theorem errB_ok {K : PySem.W.Frag} {fI D C : Addr} (z : errB K fI D C = true) : ErrC K fI D C := by
  unfold errB at z
  simp only [Bool.and_eq_true, decide_eq_true_eq] at z
  obtain ⟨⟨⟨⟨⟨⟨⟨⟨⟨⟨⟨⟨⟨⟨⟨⟨z1, z2⟩, z3⟩, z4⟩, z5⟩, z6⟩, z7⟩, z8⟩, z9⟩, z10⟩, z11⟩, z12⟩, z13⟩, z14⟩, z15⟩, z16⟩, z17⟩ := z
  exact ⟨⟨clsB_ok z1, z2, z3, z4, z5⟩, z6, z7, z8, z9, z10, ⟨z11, z12, z3, z13, z14, z15, z16, z17⟩⟩

/-- what the written part says of that __init__ -/
structure IniT (P : Program) (K : PySem.W.Frag) (mg : Str → Option Value) (fI D : Addr) (fd : FuncData) : Prop where
  fn : ∃ (ql file : Str) (dV kV dc pm ct oc ccl cl : Value) (an od cdd cld : Option Addr) (sl ccs csl : Array (Option Value)) (cda cc : Addr) (vs : Array Value) (tf : Tok) (cdD : ClassData),
    fd = iFn ql dV kV dc pm an cda ct cc ∧ K.lookup fI = some ⟨oc, od, .func fd, sl⟩ ∧ PySem.W.codeIn K (.ref cda) ql = true ∧ K.lookup cda = some ⟨ccl, cdd, .fields vs, ccs⟩ ∧ vs[2]? = some (.str file tf) ∧ ((P.main.file : Str) == file) = true ∧
    K.lookup cc = some ⟨cl, cld, .cell (some (.ref D)), csl⟩ ∧ PySem.W.clsIn K D = some cdD
  su : mg "super" = none
  th : PySem.W.nsIn K cStatics "thirdparty.any" = some none
  tp : (P.main.scope.names.lookup ("super" : Str)).isSome = false
  ty : PySem.W.typeIn K (.ref fI) = some (.type "function")

def spIni (K : PySem.W.Frag) (fI D : Addr) : Sp := fun vs H Q _ => ∃ (a C : Addr) (v : V), vs = [.ref a, v] ∧ ErrC K fI D C ∧ H a = some (exo a C none) ∧
  ∀ dx, H dx = none → dx ≠ a → Q .non (upd (upd H dx (exd dx [("value", v)])) a (exo a C (some dx)))

theorem ini_ok {P : Program} {w : World} {K : PySem.W.Frag} {mg : Str → Option Value} {base : Heap} {CX : CXT} {fI D : Addr} {fd : FuncData} (T : IniT P K mg fI D fd) : FnOk P w K mg base CX 1 fI fd ["self", "value"] (spIni K fI D) := by
  constructor
  · rintro vs H Q E ⟨a, C, v, rfl, _⟩
    rfl
  rintro A fr s H ag us vs Q E room en bnd rel ⟨a, C, v, rfl, EC, ha, q⟩
  obtain ⟨ql, file, dV, kV, dc, pm, ct, oc, ccl, cl, an, od, cdd, cld, sl, ccs, csl, cda, cc, vs', tf, cdD, rfl, lk, hcd, hcode, hvs, hfile, hcell, hD⟩ := T.fn
  obtain ⟨ua, u, rfl, ra, ru⟩ := vals2 rel
  obtain rfl : ua = Value.ref a := ra
  obtain ⟨nm, qn, N, bs, bm, sn, sub, ab, col, dd, k0, k1, k2, k3, k5, hC, hbm⟩ := EC.ox.cls
  have stays : ∀ b o, base.get? b = some o → s.heap.get? b = some o := fun b o e => (en.bs b o e).1
  have inK : K.In s.heap := en.mod.kin.keeps stays
  obtain ⟨mb, b1, b2⟩ := en.mod.blt
  obtain ⟨t1, hoe⟩ := exo_at en.hok ha
  have hnk : K.lookup a = none := by
    cases z : K.lookup a with
    | none => rfl
    | some o =>
      have y := (en.bs a o (en.mod.kin a o z)).2
      rw [ha] at y
      cases y
  refine init_run inK room.depth (en.mod.nolimit.keeps stays) (en.mod.glob.keeps stays) T.su (b1.keeps stays) b2 lk hcd hcode hvs hfile T.tp hcell hD hC hbm EC.sub EC.sup T.th EC.ve EC.ox.sa EC.no hoe hnk bnd ?_
  intro s' dx t2 hos hgn k dn dne hx hn
  have hnd : H dx = none := en.hok.fresh dn
  have nd : ∀ {b : Addr} {o : Obj}, s.heap.get? b = some o → b ≠ dx := fun {b o} z => Nat.ne_of_lt (Nat.lt_of_lt_of_le (Heap.lt_size z) dn)
  have na : ∀ {b : Addr}, H b = none → b ≠ a := fun {b} n z => by
    rw [z, ha] at n
    cases n
  refine ⟨.non, upd (upd H dx (exd dx [("value", v)])) a (exo a C (some dx)), hos, by rw [hgn]; exact en.bare, ⟨?_, ?_, ?_, ?_, ?_, ?_, ?_⟩, ?_, rfl, q dx hnd dne⟩
  · exact fun b o z n _ _ => k b o (na n) z
  · exact fun b o z n _ _ => ⟨o.slots, k b o (na n) z⟩
  · intro b o z n _
    rw [upd_ne (na n), upd_ne (nd z)]
    exact n
  · intro b o z _
    by_cases hb : b = a
    · exact ⟨_, by rw [hb]; exact hx⟩
    · exact ⟨o, k b o hb z⟩
  · intro b xs z
    rw [upd_ne (at_ne ha z exo_tup), upd_ne (ne_of_none z hnd)]
    exact z
  · intro b o x z
    rw [upd_ne (at_ne ha z exo_frz), upd_ne (ne_of_none z hnd)]
    exact z
  · intro b ps z
    exact ⟨#[], by rw [upd_ne (at_ne ha z exo_tbl), upd_ne (ne_of_none z hnd), z]; simp⟩
  · intro b o z
    by_cases hb : b = a
    · subst hb
      rw [upd_same] at z
      cases z
      exact exo_ok hx
    rw [upd_ne hb] at z
    by_cases hd : b = dx
    · subst hd
      rw [upd_same] at z
      cases z
      exact exd_ok hn (relO_put (fs := []) ru fun g => True.intro)
    rw [upd_ne hd] at z
    refine (en.hok b o z).stay (fun c x hc y => k c x ?_ y) (fun c hc => ?_) (fun c xs hc => ?_)
    · rcases hc with hc | hc
      · rw [hc]; exact hb
      · exact at_ne ha hc exo_own
    · rw [upd_ne (at_ne ha hc exo_own), upd_ne (ne_of_none hc hnd)]
      exact hc
    · rw [upd_ne (at_ne ha hc exo_tup), upd_ne (ne_of_none hc hnd)]
      exact hc
end Tg
end
section
set_option Elab.async false
set_option linter.all false
set_option maxRecDepth 100000
set_option maxHeartbeats 4000000
/-! Tg, part F: rules for such errors: C(e) as a value, raise C(e), isinstance(err, ..), err.value. -/
namespace PySem.W
open PySem
section
variable {prog : Program} {w : World} {A : Around} {E : Value → Shared → Prop} {s : Shared} {K : Frag} {x D : Addr} {ox : Obj} {od : Option Obj}
/-- type(err), as isinstance asks for it, of an error that may have its own dict -/
theorem tg_classE {Q : Option Value → Shared → Prop} (c : L2.ExcC K D) (X : K.In s.heap) (I : InstAt s.heap x ox D od) (h : Q (some (.ref D)) { s with toks := s.toks + 1 }) :
    wpAny (model prog w) A (getAttr? (.ref x) "__class__") Q E s := by
  have found : findObj K D od "__class__" = some (.bind (.builtin "getset_descriptor.__get__") (.builtin "object.__class__")) := by
    obtain ⟨cd, hc, _⟩ := any_some c.hd
    unfold findObj
    rw [hc, Option.bind_some, c.ha, Option.bind_some]
    simp [c.hn, c.ht]
  obtain ⟨hp, g, d, t, os⟩ := s
  have la := I.type (M := model prog w)
  have lb := looks_findIn (M := model prog w) X c.hg
  have lc := looks_findIn (M := model prog w) X c.hk
  have ld := looks_find (M := model prog w) X I found
  have isx : Looks (model prog w) hp (isInstance (.ref x) (.type "BaseException")) true := la.andThen (looks_subIn X c.hs)
  have other : (onTheHeap (Value.ref D) && Value.builtin "BaseException.__getattribute__" == Value.builtin "object.__getattribute__") = false := by
    show (true && Value.builtin "BaseException.__getattribute__" == Value.builtin "object.__getattribute__") = false
    decide +kernel
  unfold getAttr? getAttrBy? getAttrBy
  refine wpAny_bind (wpAny_mkText (wpAny_bind (wpAny_attempt (wpAny_holding (wpAny_bind (la.at (wpAny_bind (lb.at ?_))))))))
  show wpAny _ _ (if (onTheHeap (Value.ref D) && Value.builtin "BaseException.__getattribute__" == Value.builtin "object.__getattribute__") = true then _ else _) _ _ _
  rw [other, if_neg Bool.false_ne_true]
  unfold getAttrByItsOwn hookBefore
  refine wpAny_bind ?_
  rw [if_pos (show onTheHeap (Value.ref D) = true from rfl)]
  refine lc.at (wpAny_bind (wpAny_attempt (wpAny_holding ?_)))
  unfold callGetattribute
  rw [if_neg (show ¬ ((false && onTheHeap (Value.builtin "BaseException.__getattribute__")) = true) from Bool.false_ne_true)]
  unfold boundAndCalled
  rw [PySem.F.excAttr_ValueError.ga.bind (.ref x)]
  refine wpAny_bind (wpAny_pure ?_)
  show wpAny _ _ (call (.builtin "BaseException.__getattribute__") [.ref x, .str "__class__" t]) _ _ _
  refine wpAny_call (codeAny_call_builtin PySem.F.excAttr_ValueError.ga.plain PySem.F.entry_bexc_ga ?_)
  refine @check_slot (model prog w) _ _ ⟨hp, g, d, t + 1, os⟩ "BaseException.__getattribute__" "BaseException" "__getattribute__" (.ref x) [.str "__class__" t] [] _ (by decide +kernel) (by decide +kernel) isx (PySem.F.args_bexc_ga (.ref x) (.str "__class__" t)) ?_
  unfold Builtin.«object.__getattribute__»
  refine wpAny_bind (wpAny_of_eq (a := ((Value.ref x : Value), [Value.str "__class__" t])) (by first | rfl | (simp only [slotArgs]; rfl)) ?_)
  refine wpAny_bind (wpAny_pure (wpAny_bind (la.at (wpAny_bind (ld.at ?_)))))
  show wpAny _ _ (holding [Value.builtin "object.__class__"] (call (.builtin "getset_descriptor.__get__") [.builtin "object.__class__", .ref x, .ref D]) >>= ret) _ _ _
  refine wpAny_bind (wpAny_holding (wpAny_call (class_get (s := ⟨hp, g, d, t + 1, os⟩) (ox := ox) (od := od) X I c.hm ?_)))
  refine wpAny_pure ?_
  show wpAny _ _ (handedOut (.ref D)) _ _ _
  rw [handedOut_of (v := .ref D) rfl]
  first
    | exact wpAny_pure (wpAny_pure h)
    | exact wpAny_pure h
    | exact wpAny_pure (wpAny_bind (wpAny_pure (wpAny_pure h)))
theorem tg_kit (c : L2.ExcC K D) : KitX K (.ref x) (.ref D) (fun h => ∃ ox od, InstAt h x ox D od) where
  ty := fun _ _ _ ⟨_, _, I⟩ => I.type
  it := fun _ _ X _ => by
    obtain ⟨cd, hc, _⟩ := any_some c.hd
    unfold clsIn at hc
    split at hc
    · rename_i c' d' cd' sl' ho
      intro A' Q' E' s' k q
      unfold isType loadHead
      exact wpAny_bind (wpAny_loadPart (k _ _ (X _ _ ho)) (wpAny_pure q))
    · cases hc
  ne := fun h tp dd its n sl X htp => by
    obtain ⟨cd, hc, _⟩ := any_some c.hd
    refine Bool.eq_false_iff.mpr fun q => ?_
    have e : D = tp := Value.ref.inj (beq_iff_eq.mp q)
    subst e
    unfold clsIn at hc
    split at hc
    · rename_i c' d' cd' sl' ho
      exact nomatch ((X _ _ ho).symm.trans htp)
    · cases hc
  ca := fun X ⟨_, _, I⟩ k => tg_classE c X I k
end
end PySem.W

namespace Tg
open PySem PySem.Spec PyProof.Rows L2

/-- at a: an error of the class at C, its dict at d -/
def exq (a C d : Addr) : HO := .ext fun h => ∃ (oe : Obj) (vs : Array Value), h.get? a = some oe ∧ Zc (.ref C) (some d) oe ∧ oe.data = .fields vs
theorem exq_ok {P : Program} {w : World} {H : Hp} {h : Heap} {a C d : Addr} {oe : Obj} {vs : Array Value} (e : h.get? a = some oe) (z : Zc (.ref C) (some d) oe) (hd : oe.data = .fields vs) : ObjOk P w H h a (exq a C d) :=
  ⟨⟨oe, vs, e, z, hd⟩, ⟨oe, e⟩, fun h1 h2 ⟨o1, v1, e1, z1, d1⟩ k => ⟨o1, v1, k _ e1, z1, d1⟩⟩
theorem exq_at {P : Program} {w : World} {H : Hp} {h : Heap} {a C d : Addr} (ok : HOk P w H h) (e : H a = some (exq a C d)) : ∃ (oe : Obj) (vs : Array Value), h.get? a = some oe ∧ Zc (.ref C) (some d) oe ∧ oe.data = .fields vs := by
  have x : ObjOk P w H h a (.ext fun h => ∃ (oe : Obj) (vs : Array Value), h.get? a = some oe ∧ Zc (.ref C) (some d) oe ∧ oe.data = .fields vs) := ok a _ e
  exact x.1
theorem exq_frz {a C d : Addr} {ob : Obj} {w : HO} : exq a C d ≠ .frz ob w := fun z => by
  have z' : HO.ext _ = HO.frz ob w := z
  cases z'
theorem exq_tup {a C d : Addr} {xs : List V} : exq a C d ≠ .tup xs := fun z => by
  have z' : HO.ext _ = HO.tup xs := z
  cases z'

/-- the error at a has the class at C and the value v -/
structure Err (H : Hp) (a C : Addr) (v : V) : Prop where
  ex : ∃ d, H a = some (exq a C d) ∧ H d = some (.xd [("value", v)])
theorem Err.keep {H H' : Hp} {a C : Addr} {v : V} (h : Err H a C v) (k : Same H H') : Err H' a C v := let ⟨d, e1, e2⟩ := h.ex; ⟨d, k _ _ e1, k _ _ e2⟩

section
variable {X : Cx}
/-- what is known of a thing is told otherwise -/
theorem inv_swap {pins : List (Addr × Obj)} {σ : L2.St} {H : Hp} {s : Shared} {a : Addr} {φ : Heap → Prop} {o : HO} (I : Inv X pins σ H s) (ha : H a = some (.ext φ)) (new : ObjOk X.prog X.w (upd H a o) s.heap a o) : Inv X pins σ (upd H a o) s := by
  obtain ⟨ob, e⟩ : ∃ ob, s.heap.get? a = some ob := by
    obtain ⟨_, q, _⟩ := (show ObjOk X.prog X.w H s.heap a (.ext φ) from I.hok a _ ha)
    exact q
  have J := I.write (t' := s.toks) (h' := s.heap) (x := a) (e := a) (o := o) (by rw [ha]; exact True.intro) (.inl rfl) (fun _ _ _ q => q) ⟨ob, e⟩ new
  exact J

/-- C(e) -/
def tErr (C : Addr) (te : TE) : TE := fun σ H Q => te σ H fun v H1 => ∀ a d, H1 a = none → H1 d = none → d ≠ a → Q (.ref a) (upd (upd H1 d (.xd [("value", v)])) a (exq a C d))
theorem pe_err {fI D C : Addr} {fd : FuncData} {x : Str} {e : Expr} {te : TE} {p pos : Pos} (EC : ErrC X.K fI D C) (T : IniT X.prog X.K X.mg fI D fd) (hr : Room 2 X.A) (hg : Gl X x) (hm : X.mg x = some (.ref C)) (hb : Binds X.K fd ["self", "value"] []) (he : PE X e te)
    (hdb : (x == ("__debug__" : Str)) = false := by decide) (hs : starEach [e] X.env = (false, eval e X.env) :: starEach [] X.env := by rfl) :
    PE X (.Call (.Name x p) [e] [] pos) (tErr C te) := by
  constructor
  intro pins s σ H Q I h
  obtain ⟨nm, qn, N, bs, bm, sn, sub, ab, col, dd, k0, k1, k2, k3, k5, hC, hbm⟩ := EC.ox.cls
  apply wpAny_Call_Name_kw
  apply ld_glob I hg hm _ hdb
  refine PySem.W.callWith_K (h₀ := X.base) I.ok.mod.kin EC.ox.kC ?_ hs rfl
  rw [hs]
  show wpAny _ _ (spliced ((false, eval e X.env) :: backTo pos (starEach [] X.env))) _ _ s
  refine Calls.spliced_cons (thn (he.run pins s σ H _ I h) ?_)
  rintro u s1 ⟨v, H1, I1, ru, q1⟩
  refine Calls.spliced_nil ⟨I1.kIn, ?_⟩
  show wpAny _ _ (call (.ref C) [u]) _ _ _
  obtain ⟨hp, g, dr, tk, os⟩ := s1
  have up : hp.objs.size ≤ hp.objs.size + 1 := Nat.le_succ _
  have na : H1 (hp.objs.size + 1) = none := I1.hok.fresh up
  have kk : ∀ b o, hp.get? b = some o → ((hp.push (PySem.W.kdv_tup [u])).push (PySem.HandSPX.excO C hp.objs.size)).get? b = some o := fun b o z => Heap.get?_push_of_some _ (Heap.get?_push_of_some _ z)
  have new : ((hp.push (PySem.W.kdv_tup [u])).push (PySem.HandSPX.excO C hp.objs.size)).get? (hp.objs.size + 1) = some (PySem.HandSPX.excO C hp.objs.size) := by heap_get
  have I2 : Inv X pins σ (upd H1 (hp.objs.size + 1) (exo (hp.objs.size + 1) C none)) ⟨(hp.push (PySem.W.kdv_tup [u])).push (PySem.HandSPX.excO C hp.objs.size), g, dr, tk, os⟩ :=
    I1.laid (t' := tk) (a := hp.objs.size + 1) (o := exo (hp.objs.size + 1) C none) (h' := (hp.push (PySem.W.kdv_tup [u])).push (PySem.HandSPX.excO C hp.objs.size)) kk up (exo_ok new)
  have r2 : Vals [V.ref (hp.objs.size + 1), v] [Value.ref (hp.objs.size + 1), u] := .cons rfl (.cons ru .nil)
  have bnd := hb _ [Value.ref (hp.objs.size + 1), u] I2.kIn rfl
  have ran := (ini_ok (P := X.prog) (w := X.w) (base := X.base) (CX := CX0) T).run (X.A.under (.builtin "type.__call__" ⟨[.ref C, u], []⟩)) X.stack _ _ ⟨[Value.ref (hp.objs.size + 1), u], []⟩ [Value.ref (hp.objs.size + 1), u] _
    (fun w H2 => w = .non ∧ ∃ dx, H2 = upd (upd (upd H1 (hp.objs.size + 1) (exo (hp.objs.size + 1) C none)) dx (exd dx [("value", v)])) (hp.objs.size + 1) (exo (hp.objs.size + 1) C (some dx)) ∧ H1 dx = none ∧ dx ≠ hp.objs.size + 1)
    (fun _ _ _ => False) (hr.make C [u] []) (I2.env0.make C [u] []) bnd r2
    ⟨hp.objs.size + 1, C, v, rfl, EC, upd_same, fun dx hdx ne => ⟨rfl, dx, rfl, by rw [upd_ne ne] at hdx; exact hdx, ne⟩⟩
  refine wpAny_call (PySem.HandSPX.call_own F.excBase_ValueError (fun Y => PySem.HandSPX.refsVE_contains Y bm hbm) (I1.kIn _ _ hC) (PySem.W.looks_findIn I1.kIn EC.ini) (fun self => PySem.W.bind_fn I1.kIn self T.ty) (by show 1 ≤ sizeLine; decide)
    (codeAny_mono ran fun r s' hq => ?_))
  match r, hq with
  | .error er, hq => exact False.elim hq
  | .ok .next, hq => exact False.elim hq
  | .ok .brk, hq => exact False.elim hq
  | .ok .cont, hq => exact False.elim hq
  | .ok (.ret w'), ⟨v', H2, os2, bare2, un2, hok2, rv, ev, dx, eH, hdx, ne⟩ =>
    subst ev
    refine ⟨rv, ?_⟩
    have I3 : Inv X pins σ H2 s' := I2.call' (ch := []) os2 un2 hok2 bare2 fun b z => absurd z List.not_mem_nil
    generalize hp.objs.size + 1 = a at *
    have ha : H2 a = some (exo a C (some dx)) := by rw [eH]; exact upd_same
    have hd : H2 dx = some (exd dx [("value", v)]) := by rw [eH, upd_ne ne]; exact upd_same
    obtain ⟨t0, oa⟩ := exo_at I3.hok ha
    obtain ⟨mA, ns, rel⟩ := exd_at I3.hok hd
    have I4 : Inv X pins σ (upd H2 a (exq a C dx)) s' := inv_swap I3 ha (exq_ok oa ⟨rfl, rfl⟩ rfl)
    have hd4 : (upd H2 a (exq a C dx)) dx = some (exd dx [("value", v)]) := by rw [upd_ne ne]; exact hd
    have I5 : Inv X pins σ (upd (upd H2 a (exq a C dx)) dx (.xd [("value", v)])) s' := inv_swap I4 hd4 ⟨mA, ns, rel⟩
    have eq : upd (upd H2 a (exq a C dx)) dx (.xd [("value", v)]) = upd (upd H1 dx (.xd [("value", v)])) a (exq a C dx) := by
      funext b
      by_cases h1 : b = a
      · subst h1
        rw [upd_ne (Ne.symm ne), upd_same, upd_same]
      · by_cases h2 : b = dx
        · subst h2
          rw [upd_same, upd_ne h1, upd_same]
        · rw [upd_ne h2, upd_ne h1, upd_ne h1, upd_ne h2, eH, upd_ne h1, upd_ne h2, upd_ne h1]
    rw [eq] at I5
    exact ⟨.ref a, _, I5, rfl, q1 a dx na hdx ne⟩
end
end Tg
end
section
set_option Elab.async false
set_option linter.all false
set_option maxRecDepth 100000
set_option maxHeartbeats 4000000
/-! Tg, part G: raise C(e); isinstance(err, ..); err.value. -/
namespace Tg
open PySem PySem.Spec PyProof.Rows L2
section
variable {X : Cx}
/-- a reading, widened -/
def tMo (t : TE) : TE := fun σ H Q => ∃ Q' : VK, t σ H Q' ∧ ∀ v H', Q' v H' → Q v H'
theorem pe_mo {e : Expr} {t : TE} (h : PE X e t) : PE X e (tMo t) := by
  constructor
  rintro pins s σ H Q I ⟨Q', q, imp⟩
  refine thn (h.run pins s σ H Q' I q) ?_
  rintro u s1 ⟨v, H1, I1, r, q1⟩
  exact ⟨v, H1, I1, r, imp v H1 q1⟩
theorem upd_back {H1 : Hp} {a dx : Addr} {o1 o2 o3 u : HO} (na : H1 a = none) (ne : dx ≠ a) : upd (L2.del (upd (upd (upd H1 a o1) dx o2) a o3) a) dx u = upd H1 dx u := by
  funext b
  by_cases h1 : b = dx
  · subst h1
    rw [upd_same, upd_same]
  · rw [upd_ne h1, upd_ne h1]
    by_cases h2 : b = a
    · subst h2
      rw [del_same, na]
    · rw [del_ne h2, upd_ne h2, upd_ne h1, upd_ne h2]
/-- C(e), to be raised -/
def tRz (C : Addr) (te : TE) : L2.St → Hp → XK → Prop := fun σ H Q => te σ H fun v H1 => ∀ d, H1 d = none → Q (.ref C) (some d) (upd H1 d (.xd [("value", v)]))
theorem pmk_err {fI D C : Addr} {fd : FuncData} {x : Str} {e : Expr} {te : TE} {p pos : Pos} (EC : ErrC X.K fI D C) (T : IniT X.prog X.K X.mg fI D fd) (hr : Room 2 X.A) (hg : Gl X x) (hm : X.mg x = some (.ref C)) (hb : Binds X.K fd ["self", "value"] []) (he : PE X e te)
    (hdb : (x == ("__debug__" : Str)) = false := by decide) (hs : starEach [e] X.env = (false, eval e X.env) :: starEach [] X.env := by rfl) : PMk X (.Call (.Name x p) [e] [] pos) (tRz C te) := by
  intro pins s σ H Q I h
  refine pmk_oex (CX := CX0) (dvs := []) (ds := []) EC.ox EC.ini T.ty (ini_ok T) hr hb .nil pass0 hg hm (pa_cons (pe_mo he) pa_nil hs) hdb hs rfl pins s σ H Q I ?_
  refine ⟨_, h, fun v H1 q => ⟨by show 1 ≤ 1000; decide, fun a na => ?_⟩⟩
  refine ⟨a, C, v, rfl, EC, upd_same, fun dx hdx ne => ⟨rfl, dx, [("value", v)], upd_same, ?_, ?_, ?_⟩⟩
  · rw [upd_ne ne, upd_same]
  · rw [upd_ne ne] at hdx
    exact hdx
  · rw [upd_ne ne] at hdx
    rw [upd_back na ne]
    exact q dx hdx
/-- raise C(e) -/
theorem ps_raiseE {W : WX} {fI D C : Addr} {fd : FuncData} {x : Str} {e : Expr} {te : TE} {p pos pos' : Pos} (hc : X.calm = true) (tk : Takes X W) (EC : ErrC X.K fI D C) (T : IniT X.prog X.K X.mg fI D fd) (hr : Room 2 X.A) (hg : Gl X x) (hm : X.mg x = some (.ref C))
    (hb : Binds X.K fd ["self", "value"] []) (he : PE X e te) (hdb : (x == ("__debug__" : Str)) = false := by decide) (hs : starEach [e] X.env = (false, eval e X.env) :: starEach [] X.env := by rfl) :
    PS X (.Raise (some (.Call (.Name x p) [e] [] pos)) none pos') (fun _ σ H => te σ H fun v H1 => ∀ d, H1 d = none → W (.ref C) (some d) σ (upd H1 d (.xd [("value", v)]))) :=
  ps_raise hc tk (pmk_err EC T hr hg hm hb he hdb hs)

theorem exq_inst {P : Program} {w : World} {H : Hp} {h : Heap} {a C d : Addr} {fs : List (Str × V)} (ok : HOk P w H h) (e : H a = some (exq a C d)) (ed : H d = some (.xd fs)) :
    ∃ (oe od : Obj) (mA : Str → Option Value), PySem.W.InstAt h a oe C (some od) ∧ (∀ name, PySem.W.lookIn name od = some (mA name)) ∧ ∀ f, RelO (fs.lookup f) (mA f) := by
  obtain ⟨oe, vs, e1, z, hd⟩ := exq_at ok e
  obtain ⟨mA, ns, rel⟩ := (show ObjOk P w H h d (.xd fs) from ok d _ ed)
  obtain ⟨od, ho, hl⟩ := lookIn_ns ns
  exact ⟨oe, od, mA, ⟨e1, z.1, by unfold PySem.W.notCls; rw [hd] <;> rfl, by rw [z.2]; exact ho⟩, hl, rel⟩

/-- isinstance(err, c) -/
def rIsErr (K : PySem.W.Frag) : List V → Hp → VK → Prop := fun xs H Q => ∃ (a C : Addr) (v c : V) (cv : Value) (b : Bool), xs = [.ref a, c] ∧ Err H a C v ∧ ExcC K C ∧ ClsV c cv ∧ PySem.W.kitOne K (.ref C) cv = some b ∧ Q (.bl b) H
theorem call_isErr : CallR X (.builtin "isinstance") (rIsErr X.K) := by
  rintro pins s σ H xs us Q I rel ⟨a, C, v, c, cv, b, rfl, er, xc, hcv, hk, q⟩
  obtain ⟨ua, uc, rfl, ra, rc⟩ := vals2 rel
  obtain rfl : ua = Value.ref a := ra
  obtain rfl := hcv.eq rc
  obtain ⟨d, e1, e2⟩ := er.ex
  obtain ⟨oe, od, mA, J, _, _⟩ := exq_inst I.hok e1 e2
  exact PySem.W.kia_one (PySem.W.tg_kit xc) I.kIn ⟨oe, some od, J⟩ hk (fun z => nomatch z) fun tk => ⟨.bl b, H, I.kept (t' := tk) fun _ _ z => z, rfl, q⟩

/-- err.value -/
def tVal (K : PySem.W.Frag) (te : TE) : TE := fun σ H Q => te σ H fun x H1 => ∃ (a C : Addr) (v : V), x = .ref a ∧ Err H1 a C v ∧ ExcC K C ∧ PySem.W.findIn K (.ref C) "value" = some none ∧ Q v H1
theorem pe_value {e : Expr} {te : TE} {pos : Pos} (he : PE X e te) (hb : attributeBase e "value" X.env (eval e X.env) = eval e X.env := by rfl) : PE X (.Attribute e "value" pos) (tVal X.K te) := by
  constructor
  intro pins s σ H Q I h
  refine attr_of hb (thn (he.run pins s σ H _ I h) ?_)
  rintro u s1 ⟨x, H1, I1, rx, a, C, v, rfl, er, xc, no, q⟩
  obtain rfl : u = Value.ref a := rx
  obtain ⟨d, e1, e2⟩ := er.ex
  obtain ⟨oe, od, mA, J, hl, rel⟩ := exq_inst I1.hok e1 e2
  obtain ⟨w, hw, rw'⟩ := RelO.some_of (v := v) (o := mA "value") (by
    have z := rel "value"
    rw [show ([("value", v)] : List (Str × V)).lookup (Str.ofString "value") = some v from rfl] at z
    exact z)
  exact HandSPX.exc_get I1.kIn J xc.hg xc.hk xc.hs (PySem.W.findObj_own xc.hd no rfl (by rw [hl, hw])) (handed_of rw') ⟨v, H1, I1.tok _, rw', q⟩
end
end Tg
end
section
set_option Elab.async false
set_option linter.all false
set_option maxRecDepth 100000
set_option maxHeartbeats 4000000
/-! Tg, part H: data laid anew (displays), as readings ask for it. -/
namespace Tg
open PySem PySem.Spec PyProof.Rows L2

theorem len_ok {α : Type} {xs : List α} (h : xs.length ≤ 1000) : xs.length ≤ sizeLine := by rw [sizeLine_eq]; omega
theorem same_new {H : Hp} {p : Addr} {o : HO} (n : H p = none) : Same H (upd H p o) := fun b u e => by
  rw [upd_ne (ne_of_none e n)]
  exact e
theorem same_upd2 {H : Hp} {p : Addr} {o u : HO} (n : H p = none) : Same H (upd (upd H p o) p u) := fun b x e => by
  rw [upd_ne (ne_of_none e n), upd_ne (ne_of_none e n)]
  exact e
theorem Rp.same {H H' : Hp} {d : PyData} {v : V} (r : Rp H d v) (s : Same H H') : Rp H' d v := r.keep (Kp.same s)
theorem RpL.same {H H' : Hp} {ds : List PyData} {xs : List V} (r : RpL H ds xs) (s : Same H H') : RpL H' ds xs := RpL.keep (Kp.same s) ds xs r
theorem RpL.nil {H : Hp} : RpL H [] [] := by simp only [RpL]
theorem RpL.cons {H : Hp} {d : PyData} {v : V} {ds : List PyData} {xs : List V} (r : Rp H d v) (rs : RpL H ds xs) : RpL H (d :: ds) (v :: xs) := by
  simp only [RpL]
  exact ⟨v, xs, rfl, r, rs⟩
theorem Rp.non {H : Hp} : Rp H .none .non := by simp only [Rp]
theorem Rp.bl {H : Hp} {b : Bool} : Rp H (.bool b) (.bl b) := by simp only [Rp]
theorem Rp.int {H : Hp} {i : Int} : Rp H (.int i) (.int i) := by simp only [Rp]
theorem Rp.str {H : Hp} {x : Str} : Rp H (.str x) (.str x) := by simp only [Rp]
theorem Rp.tup {H : Hp} {a : Addr} {ds : List PyData} {xs : List V} (h : H a = some (.tup xs)) (r : RpL H ds xs) : Rp H (.tuple ds) (.ref a) := by
  simp only [Rp]
  exact ⟨a, xs, rfl, h, r⟩
theorem Rp.lst {H : Hp} {a : Addr} {o : Obj} {ds : List PyData} {xs : List V} (h : H a = some (.frz o (.lst xs))) (r : RpL H ds xs) : Rp H (.list ds) (.ref a) := by
  simp only [Rp]
  exact ⟨a, o, xs, rfl, h, r⟩
theorem Rp.dct {H : Hp} {a : Addr} {o : Obj} {kds : List (PyData × PyData)} {kvs : List (Key × V)} (h : H a = some (.frz o (.dK kvs))) (r : RpD H kds kvs) : Rp H (.dict kds) (.ref a) := by
  simp only [Rp]
  exact .inl ⟨a, o, kvs, rfl, h, r⟩
theorem RpD.nil {H : Hp} : RpD H [] [] := by simp only [RpD]
theorem RpD.cons {H : Hp} {k : Key} {d : PyData} {v : V} {kds : List (PyData × PyData)} {kvs : List (Key × V)} (r : Rp H d v) (rs : RpD H kds kvs) : RpD H ((kD k, d) :: kds) ((k, v) :: kvs) := by
  simp only [RpD]
  exact ⟨k, v, kvs, rfl, rfl, r, rs⟩

/-- a tuple -/
theorem g_tup {H : Hp} {p : Addr} {xs : List V} {ds : List PyData} (n : H p = none) (r : RpL H ds xs) : ∃ H1, upd H p (.tup xs) = H1 ∧ Same H H1 ∧ Rp H1 (.tuple ds) (.ref p) :=
  ⟨_, rfl, same_new n, Rp.tup upd_same (r.same (same_new n))⟩
/-- a list that is locked -/
theorem g_lst {H : Hp} {p : Addr} {o : Obj} {xs : List V} {ds : List PyData} (n : H p = none) (r : RpL H ds xs) : ∃ H1, upd (upd H p (.lst xs)) p (.frz o (.lst xs)) = H1 ∧ Same H H1 ∧ Rp H1 (.list ds) (.ref p) :=
  ⟨_, rfl, same_upd2 n, Rp.lst upd_same (r.same (same_upd2 n))⟩
/-- an empty dict that is locked -/
theorem g_dct0 {H : Hp} {p : Addr} {o : Obj} (n : H p = none) : ∃ H1, upd (upd H p (.dK [])) p (.frz o (.dK [])) = H1 ∧ Same H H1 ∧ Rp H1 (.dict []) (.ref p) :=
  ⟨_, rfl, same_upd2 n, Rp.dct upd_same RpD.nil⟩
/-- a list of the moment -/
theorem g_mut {H : Hp} {p : Addr} {xs : List V} (n : H p = none) : ∃ H1, upd H p (.lst xs) = H1 ∧ Same H H1 ∧ H1 p = some (.lst xs) := ⟨_, rfl, same_new n, upd_same⟩
/-- a dict of one pair that is locked; the value's reading led from the empty dict to H2 -/
theorem g_dct1 {H H2 : Hp} {p : Addr} {o : Obj} {k : Key} {v : V} {d : PyData} (n : H p = none) (s : Same (upd H p (.dK [])) H2) (r : Rp H2 d v) :
    ∃ H1, upd (upd H2 p (.dK (mergeK [] [(k, v)]))) p (.frz o (.dK (mergeK [] [(k, v)]))) = H1 ∧ Same H H1 ∧ Rp H1 (.dict [(kD k, d)]) (.ref p) := by
  have hp : H2 p = some (.dK []) := s p _ upd_same
  refine ⟨_, rfl, fun b x e => ?_, ?_⟩
  · have ne := ne_of_none e n
    rw [upd_ne ne, upd_ne ne]
    exact s b x (by rw [upd_ne ne]; exact e)
  · have kp : Kp H2 (upd (upd H2 p (.dK (mergeK [] [(k, v)]))) p (.frz o (.dK (mergeK [] [(k, v)])))) := by
      rw [upd_upd]
      exact Kp.put hp (fun _ _ z => nomatch z) (fun _ z => nomatch z) (fun _ _ _ z => nomatch z)
    exact Rp.dct (kvs := [(k, v)]) upd_same (RpD.cons (r.keep kp) RpD.nil)
end Tg
namespace Tg
open PySem PySem.Spec PyProof.Rows L2
/-- repr(e), the room told by a number -/
def rReprN (n : Nat) : List V → Hp → VK → Prop := fun xs H Q => ∃ (d : PyData) (v : V), xs = [v] ∧ Rp H d v ∧ d.showable = true ∧ d.shown.length ≤ sizeLine ∧ n + d.depth + 2 < cLine ∧ Q (.str d.shown) H
theorem call_reprN {X : Cx} {n : Nat} (hg : X.A.guards = some []) (hn : X.A.units ≤ n) : CallR X (.builtin "repr") (rReprN n) := by
  rintro pins s σ H xs us Q I rel ⟨d, v, e, r, hs, hz, hu, q⟩
  exact call_reprD hg pins s σ H xs us Q I rel ⟨d, v, e, r, hs, hz, by omega, q⟩
theorem room_units {k : Nat} {A : Around} (hr : Room k A) : ∃ U, A.units ≤ U ∧ U + 200 < cLine := ⟨_, Nat.le_refl _, by have := hr.un; omega⟩
end Tg
end
section
set_option Elab.async false
set_option linter.all false
set_option maxRecDepth 100000
set_option maxHeartbeats 4000000
/-! Tg, part I: isinstance of data; the dict {None: 1}: its display, its pairs. -/
namespace Tg
open PySem PySem.Spec PyProof.Rows L2

/-- the type of data -/
def tyD : PyData → Value
  | .none => .type "NoneType"
  | .bool _ => .type "bool"
  | .int _ => .type "int"
  | .str _ => .type "str"
  | .list _ => .type "list"
  | .tuple _ => .type "tuple"
  | .dict _ => .type "dict"
section
variable {X : Cx} {pins : List (Addr × Obj)} {σ : L2.St} {H : Hp} {s : Shared}
theorem kit_rp {x : V} {u : Value} {d : PyData} (I : Inv X pins σ H s) (rx : RelV x u) (r : Rp H d x) : ∃ P : Heap → Prop, PySem.W.KitX X.K u (tyD d) P ∧ P s.heap ∧ u ≠ .builtin "__main__.__loader__#opaque" := by
  cases d with
  | none => simp only [Rp] at r; subst r; exact kit_of I rx (.base .non)
  | bool b => simp only [Rp] at r; subst r; exact kit_of I rx (.base (.bl b))
  | int i => simp only [Rp] at r; subst r; exact kit_of I rx (.base (.int i))
  | str z => simp only [Rp] at r; subst r; exact kit_of I rx (.base (.str z))
  | list ds =>
    simp only [Rp] at r
    obtain ⟨a, o, xs, rfl, ha, _⟩ := r
    exact kit_of I rx (.base (.frz ha))
  | tuple ds =>
    simp only [Rp] at r
    obtain ⟨a, xs, rfl, ha, _⟩ := r
    exact kit_of I rx (.base (.tup ha))
  | dict kds =>
    simp only [Rp] at r
    rcases r with ⟨a, o, kvs, rfl, ha, _⟩ | ⟨rfl, a, o, rfl, ha, no, _⟩
    · exact kit_of I rx (.fDict ha)
    · cases (show u = Value.ref a from rx)
      obtain ⟨e1, e2, _⟩ := non_at I.hok ha no
      exact ⟨_, PySem.W.kitx_dict, ⟨o, e1, e2⟩, fun z => nomatch z⟩
end
section
variable {X : Cx}
/-- isinstance(data, c) -/
def rIsD (K : PySem.W.Frag) : List V → Hp → VK → Prop := fun xs H Q => ∃ (x c : V) (d : PyData) (u : Value) (b : Bool), xs = [x, c] ∧ ClsV c u ∧ Rp H d x ∧ PySem.W.kitOne K (tyD d) u = some b ∧ Q (.bl b) H
theorem call_isD : CallR X (.builtin "isinstance") (rIsD X.K) := by
  intro pins s σ H xs us Q I r h
  obtain ⟨x, c, d, u, b, rfl, k, ty, e, q⟩ := h
  obtain ⟨u1, u2, rfl, r1, r2⟩ := vals2 r
  have e2 := k.eq r2
  subst e2
  obtain ⟨P, Z, p, hx⟩ := kit_rp I r1 ty
  exact PySem.W.kia_one Z I.kIn p e hx fun tk => ⟨.bl b, H, I.tok tk, rfl, q⟩
/-- isinstance(data, (c1, c2, ..)) -/
def rIsDT (K : PySem.W.Frag) : List V → Hp → VK → Prop := fun xs H Q => ∃ (x : V) (tp : Addr) (cs : List V) (d : PyData) (us : List Value) (b : Bool), xs = [x, .ref tp] ∧ H tp = some (.tup cs) ∧ Paired ClsV cs us ∧ Rp H d x ∧ PySem.W.kitAny K (tyD d) us = some b ∧ Q (.bl b) H
theorem call_isDT : CallR X (.builtin "isinstance") (rIsDT X.K) := by
  intro pins s σ H xs us Q I r h
  obtain ⟨x, tp, cs, d, ws, b, rfl, hT, k, ty, e, q⟩ := h
  obtain ⟨u1, u2, rfl, r1, r2⟩ := vals2 r
  cases (show u2 = Value.ref tp from r2)
  obtain ⟨P, Z, p, hx⟩ := kit_rp I r1 ty
  obtain ⟨_, its, rv, o, h1, h2, n, h3⟩ := (show ObjOk X.prog X.w H s.heap tp (.tup cs) from I.hok tp _ hT)
  have e3 := ClsV.all k rv
  subst e3
  obtain ⟨oc, od, dt, sl⟩ := o
  simp only at h2 h3
  subst h2 h3
  exact PySem.W.kia_tup Z I.kIn p h1 e hx fun tk => ⟨.bl b, H, I.tok tk, rfl, q⟩

/-! ### {None: 1} -/
def tNone1 (trs : List (TE × TE)) : TE := fun σ H Q => ∀ p, H p = none → tPairs trs σ (upd H p (.dK [])) fun ps H2 => H2 p = some (.dK []) ∧ ps = [(.non, .int 1)] ∧ ∀ o, NonO o → (p == sysModules) = false → Q (.ref p) (upd H2 p (.frz o (NDh p o)))
theorem pe_none1 {pos : Pos} {keys : List (Option Expr)} {values : List Expr} {trs : List (TE × TE)} (h : PPs X pos keys values trs) (hall : keys.all (·.isSome) = true) (hl : keys.length = values.length) (h0 : keys ≠ [])
    (h15 : keys.length ≤ 15) : PE X (.Dict keys values pos) (tNone1 trs) := by
  refine ⟨fun pins s σ H Q I q => ?_⟩
  have hn := I.hok.fresh (Nat.le_refl s.heap.objs.size)
  have I1 := I.laid (a := s.heap.objs.size) (o := .dK []) (h' := s.heap.push { cls := .type "dict", data := .dict #[] }) (t' := s.toks) (fun _ _ q => Heap.get?_push_of_some _ q) (Nat.le_refl _) (dk_empty s.heap I.big)
  refine wpAny_Dict_walk (knd := leafKind X.prog X.w) hall hl h0 h15 (thn (h.run pins _ σ _ _ I1 (q _ hn)) fun ws s2 ⟨ps, H2, I2, rel, e, ep, q2⟩ => ?_)
  subst ep
  obtain ⟨z, hd, vs0, r0, dd⟩ := dk_of I2.hok e
  cases r0
  cases rel with
  | @cons _ w1 _ ws1 r1 rr =>
    cases rr
    obtain ⟨k1, v1⟩ := w1
    obtain ⟨r1, r2⟩ := r1
    cases (show k1 = Value.none from r1)
    obtain ⟨t, rfl⟩ := (show ∃ t, v1 = Value.int 1 t from r2)
    have d0 : s2.heap.DictOf (leafKind X.prog X.w) s.heap.objs.size [] := by
      obtain ⟨o, es, ep, a1, a2, a3, _, a5, _⟩ := dd
      cases hes : es.toList with
      | nil =>
        have ee : es = #[] := Array.toList_inj.mp (by rw [hes])
        subst ee
        exact ⟨o, #[], ep, a1, a2, a3, fun e he => absurd he (by simp), .nil, List.nodup_nil⟩
      | cons x y => rw [hes] at a5; cases a5
    refine ⟨[(Leaf.none, .int 1 t)], ⟨rfl, rfl, True.intro⟩, d0, fun h' dd' hs => ?_⟩
    obtain ⟨o, es, ep, a1, a2, a3, a4, a5, _⟩ := dd'
    have no : NonO o := by
      cases hes : es.toList with
      | nil => rw [hes] at a5; cases a5
      | cons x y =>
        rw [hes] at a5
        cases a5 with
        | cons p1 p2 p3 =>
          cases p3
          obtain ⟨k, k1, k2⟩ := a4 x (by rw [← Array.mem_toList_iff, hes]; exact List.mem_singleton.mpr rfl)
          obtain ⟨hx, kx, vx⟩ := x
          simp only at p1 p2 k1 k2
          subst p2
          have kn : kx = Value.none := by
            cases kx <;> first | rfl | cases p1
          subst kn
          have kl : k = Leaf.none := by
            cases k with
            | none => rfl
            | num i => cases k1
            | text z => cases k1
          subst kl
          refine ⟨a2, ep, t, ?_⟩
          rw [a3]
          have ee : es = #[⟨hx, .none, .int 1 t⟩] := Array.toList_inj.mp (by rw [hes])
          rw [ee, k2]
          rfl
    refine ⟨.ref s.heap.objs.size, _, ?_, rfl, q2 o no hd⟩
    exact d_write I2 (by rw [e]; exact True.intro) hs ⟨o, a1⟩ ⟨a1, a1, ⟨o, a1⟩, fun h1 h2 e1 st => st _ e1⟩
end
end Tg
end
section
set_option Elab.async false
set_option linter.all false
set_option maxRecDepth 100000
set_option maxHeartbeats 4000000
/-! Tg, part J: the pairs of a dict that is data. -/
namespace Tg
open PySem PySem.Spec PyProof.Rows L2
/-- the one pair of {None: 1}, a new tuple -/
def ItN (d : Addr) (o : Obj) : It :=
  ⟨fun i H => (H d = some (.frz o (NDh d o)) ∧ NonO o ∧ (d == sysModules) = false) ∧ i < 1, fun i H x H' => ∃ T, x = .ref T ∧ H T = none ∧ H' = upd H T (.tup [.non, .int 1]), fun i H => (H d = some (.frz o (NDh d o)) ∧ NonO o ∧ (d == sysModules) = false) ∧ 1 ≤ i⟩
theorem walk_itemsN {d : Addr} {o : Obj} : Walk (ItN d o) 1 (fun H => H d = some (.frz o (NDh d o)) ∧ NonO o ∧ (d == sysModules) = false) (fun i H x H' => ∃ T, x = .ref T ∧ H T = none ∧ H' = upd H T (.tup [.non, .int 1])) :=
  ⟨fun _ _ hi q => ⟨q, hi⟩, fun _ q => ⟨q, Nat.le_refl _⟩, fun _ _ _ _ _ _ y => y⟩
section
variable {X : Cx} {pins : List (Addr × Obj)} {σ : L2.St} {H : Hp} {s : Shared}
theorem non_dict {P : Program} {w : World} {h : Heap} {d : Addr} {o : Obj} {ep : Nat} {t : Tok} (e : h.get? d = some o) (x : o.ExactDict) (dd : o.data = .dict #[⟨hNone, .none, .int 1 t⟩] ep) : h.DictAt (leafKind P w) d [(Leaf.none, .int 1 t)] ep :=
  ⟨o, _, e, x, dd, fun en he => by
    have q : en = ⟨hNone, .none, .int 1 t⟩ := by simpa using he
    subst q
    exact ⟨Leaf.none, rfl, rfl⟩, .cons rfl rfl .nil, by simp⟩
end
section
variable {P : Program} {w : World} {K : PySem.W.Frag} {d : Addr} {o : Obj} {ep : Nat} {t : Tok}
theorem turn_itemsN {elts : List Expr} {kk : Nat} {tpos : Pos} (it : Addr) (hod : o.data = .dict #[⟨hNone, .none, .int 1 t⟩] ep) :
    Turn P w K (.Tuple elts kk tpos) (ItN d o) [it] it (fun i h => ∃ ok ov, IsItemIter h it d i 1 ep ok ov) where
  mem := by simp
  obj := fun i h st b hb => by
    have e : b = it := by simpa using hb
    subst e
    obtain ⟨ok, ov, e⟩ := st
    exact ⟨_, e, fun v z => nomatch z⟩
  keep := fun i h h' st k => let ⟨ok, ov, e⟩ := st; ⟨ok, ov, k it (by simp) _ e⟩
  item := by
    intro X hP hw hK hc i pins s σ H E I hf st hg
    subst hP hw hK
    obtain ⟨⟨hd, no, sm⟩, hi⟩ := hg
    obtain ⟨e1, _⟩ := I.hok d _ hd
    have hm := non_dict (P := X.prog) (w := X.w) e1 no.1 hod
    have hi0 : i = 0 := by omega
    subst hi0
    obtain ⟨ok, ov, he⟩ := st
    have hlt : it < s.heap.objs.size := Heap.lt_size he
    refine wpAny_pyNext_items_item (kvs := [(Leaf.none, .int 1 t)]) he hm rfl fun key h' hkey ho hT hz hk => ?_
    have kn : key = Value.none := by
      cases key <;> first | rfl | cases hkey
    subst kn
    refine ⟨_, rfl, wpAny_letOwnedTupleGo_items (s := { s with heap := h' }) ho fun h'' he' sb => ?_⟩
    have hT2 : h''.get? s.heap.objs.size = some { cls := .type "tuple", data := .seq #[.none, .int 1 t] } := (sb.2 _ (Nat.ne_of_gt hlt)).trans hT
    have new : ObjOk X.prog X.w (upd H s.heap.objs.size (.tup [.non, .int 1])) h'' s.heap.objs.size (.tup [.non, .int 1]) :=
      ⟨by show 2 ≤ sizeLine; decide, [.none, .int 1 t], .cons rfl (.cons ⟨_, rfl⟩ .nil), ⟨_, hT2, rfl, _, rfl⟩⟩
    have I1 : Inv X pins σ (upd H s.heap.objs.size (.tup [.non, .int 1])) { s with heap := h'' } :=
      I.turnedNew (t' := s.toks) (ch := [it]) (fun b ob hb e => (sb.2 b (by simpa using hb)).trans (hk b ob (by simpa using hb) e)) hf (Nat.le_refl _) new
    refine ⟨.ref s.heap.objs.size, _, I1, rfl, ⟨_, rfl, I.hok.fresh (Nat.le_refl _), rfl⟩, ⟨.none, .int 1 t, he'⟩, fun b hb => ?_⟩
    have e : b = it := by simpa using hb
    rw [e, upd_ne (Nat.ne_of_lt hlt)]
    exact (hf it (by simp)).1
  done := by
    intro X hP hw hK hc i pins s σ H E I hf st hg
    subst hP hw hK
    obtain ⟨⟨hd, no, sm⟩, hi⟩ := hg
    obtain ⟨f0, f1, f2, f3, f4, f5⟩ := hf it (by simp)
    obtain ⟨e1, _⟩ := I.hok d _ hd
    have hm := non_dict (P := X.prog) (w := X.w) e1 no.1 hod
    obtain ⟨ok, ov, he⟩ := st
    exact wpAny_pyNext_items_end (kvs := [(Leaf.none, .int 1 t)]) (I.ok.hd hc) he hm (List.getElem?_eq_none (by simpa using hi)) fun h' eb => ⟨rfl, I.turned (t' := s.toks) (fun b ob hb e => eb b ob hb e) f0 f1 f3 f4 f5⟩
  self := fun A i s Q E st h => let ⟨_, _, e⟩ := st; PySem.W.kcp_self e h
end
section
variable {X : Cx} {e : Expr} {td : TE} {apos cpos : Pos}
/-- d.items() of a dict that is data -/
def iItemsN (td : TE) : TI := fun σ H R => td σ H fun x H1 => ∃ d o, x = .ref d ∧ ((∃ kvs, H1 d = some (.frz o (.dK kvs)) ∧ R (Iti d o kvs) H1) ∨ (H1 d = some (.frz o (NDh d o)) ∧ NonO o ∧ (d == sysModules) = false ∧ R (ItN d o) H1))
theorem pi_itemsN {elts : List Expr} {kk : Nat} {tpos : Pos} (he : PE X e td) (hbase : attributeBase e "items" X.env (eval e X.env) = eval e X.env := by rfl) (hline : (apos.endLine == cpos.line) = true := by rfl) :
    PI X (.Tuple elts kk tpos) (.Call (.Attribute e "items" apos) [] [] cpos) (iItemsN td) := by
  refine ⟨fun pins s σ H R I h => ?_⟩
  refine wpAny_Call_method (T := "dict") (id := "dict.items") hbase rfl hline F.plainAttrs_dict F.slot_dict_items F.type_dict_items (thn (he.run pins s σ H _ I h) fun u s1 ⟨x, H1, I1, rx, d, o, ex, hh⟩ => ?_)
  subst ex
  obtain rfl : u = Value.ref d := rx
  have I2 : Inv X pins σ H1 { s1 with heap := s1.heap.push { cls := .type "dict_items", data := .fields #[.ref d] } } := I1.kept (t' := s1.toks) fun b ob q => Heap.get?_push_of_some _ q
  rcases hh with ⟨kvs, hd, q⟩ | ⟨hd, no, sm, q⟩
  · obtain ⟨hs, hgd, hx, es, ep, vs, hdt, hsz, kv, hm⟩ := I1.frzK hd
    have hl : kvs.length = vs.length := Paired.length kv
    refine ⟨hm.dictOf.typeIs, hm.dictOf.mapOf.noDict, ?_⟩
    have fin : wpAny (model X.prog X.w) X.A (pyIter (.ref s1.heap.objs.size)) (PIE X pins σ (.Tuple elts kk tpos) R) X.xe { s1 with heap := s1.heap.push { cls := .type "dict_items", data := .fields #[.ref d] } } := by
      refine wpAny_pyIter_items (d := d) (knd := mixKind X.prog X.w) ⟨_, Heap.get?_push_size _ rfl, rfl, rfl⟩ (hm.push _) (pi_one (tk := s1.toks) I2 _ (turn_items _ hdt) ⟨.none, .none, ?_⟩ q)
      rw [hl]
      exact Heap.get?_push_size _ rfl
    show wpAny _ _ (callWith cpos (.builtin "dict.items") [.ref d] [] []) _ X.xe s1
    exact method_meetsIn F.slot_dict_items F.entry_dict_items rfl (PySem.evalArgs_none ⟨rfl, hm.dictOf.typeIs, F.args_dict_items_1 _, _, meets_dict_items (mixKind X.prog X.w) d hs, ⟨vs, hm.dictOf⟩, fin⟩)
  · obtain ⟨e1, _⟩ := I1.hok d _ hd
    obtain ⟨x, ep, t, dd⟩ := id no
    have hm := non_dict (P := X.prog) (w := X.w) e1 x dd
    refine ⟨hm.dictOf.typeIs, hm.dictOf.mapOf.noDict, ?_⟩
    have fin : wpAny (model X.prog X.w) X.A (pyIter (.ref s1.heap.objs.size)) (PIE X pins σ (.Tuple elts kk tpos) R) X.xe { s1 with heap := s1.heap.push { cls := .type "dict_items", data := .fields #[.ref d] } } := by
      refine wpAny_pyIter_items (d := d) (knd := leafKind X.prog X.w) ⟨_, Heap.get?_push_size _ rfl, rfl, rfl⟩ (hm.push _) (pi_one (tk := s1.toks) I2 _ (turn_itemsN _ dd) ⟨.none, .none, ?_⟩ q)
      exact Heap.get?_push_size _ rfl
    show wpAny _ _ (callWith cpos (.builtin "dict.items") [.ref d] [] []) _ X.xe s1
    exact method_meetsIn F.slot_dict_items F.entry_dict_items rfl (PySem.evalArgs_none ⟨rfl, hm.dictOf.typeIs, F.args_dict_items_1 _, _, meets_dict_items (leafKind X.prog X.w) d sm, ⟨_, hm.dictOf⟩, fin⟩)
end
end Tg
end
section
set_option Elab.async false
set_option linter.all false
set_option maxRecDepth 100000
set_option maxHeartbeats 4000000
/-! Tg, part K: an error that was caught and is kept. -/
namespace Tg
open PySem PySem.Spec PyProof.Rows L2
section
variable {X : Cx} {pins : List (Addr × Obj)} {σ : L2.St} {H : Hp} {s : Shared}
/-- an error that came since the def was entered is known from now on -/
theorem inv_track (I : Inv X pins σ H s) {a C dd : Addr} {oe : Obj} {vs : Array Value} (e : s.heap.get? a = some oe) (z : Zc (.ref C) (some dd) oe) (hd : oe.data = .fields vs) (na : H a = none) (n0 : X.s_0.heap.get? a = none) (nL : a ≠ X.env.locals)
    (np : ∀ p ∈ X.pn ++ pins, p.1 ≠ a) : Inv X pins σ (upd H a (exq a C dd)) s := by
  have st : ∀ b u, H b = some u → upd H a (exq a C dd) b = some u := fun b u q => by
    rw [upd_ne (ne_of_none q na)]
    exact q
  refine ⟨I.ok, I.os, I.bare, ⟨I.base.keep, I.base.slot, fun b o q n hx => ?_, I.base.there, fun b xs q => st _ _ (I.base.tups b xs q), fun b o u q => st _ _ (I.base.frzs b o u q), fun b ps q => ?_⟩, I.loc, I.cell, ?_, fun x c q => ?_, fun p hp => ?_, fun b u q => ?_, I.len⟩
  · have nb : b ≠ a := fun q2 => by
      rw [q2, n0] at q
      cases q
    rw [upd_ne nb]
    exact I.base.free b o q n hx
  · obtain ⟨more, hm⟩ := I.base.tbls b ps q
    exact ⟨more, st _ _ hm⟩
  · rw [upd_ne nL.symm]
    exact I.free
  · have nc : c ≠ a := fun q2 => by
      obtain ⟨v, o, ho, hv⟩ := I.cell x c q
      rw [q2, e] at ho
      cases ho
      rw [hd] at hv
      cases hv
    rw [upd_ne nc]
    exact I.freeC x c q
  · obtain ⟨h1, h2, h3⟩ := I.pin p hp
    refine ⟨h1, ?_, h3⟩
    rw [upd_ne (np p hp)]
    exact h2
  · by_cases hb : b = a
    · rw [hb, upd_same] at q
      cases q
      rw [hb]
      exact exq_ok e z hd
    · rw [upd_ne hb] at q
      exact (I.hok b u q).stay (fun _ _ _ r => r) (fun d r => st _ _ r) fun d xs r => st _ _ r
end
/-- what an except clause that keeps the error makes of an exception -/
def wKeep (K : PySem.W.Frag) (c : Value) (m i : Nat) (ts : Addr → Value → Option Addr → TS) (Wout : WX) (D : Ends) : WX := fun cls d σ H => σ.length = m →
  ∃ b, PySem.W.exmOne K cls c = some b ∧ (b = true → ∃ C dd, cls = .ref C ∧ d = some dd ∧ ∀ a, H a = none → ts a cls d { nx := fun σ' H' => D.nx (σ'.set i none) (upd H' a (exq a C dd)), rt := fun _ _ => False, bk := fun _ _ => False, ct := fun _ _ => False } (σ.set i (some (.ref a))) H) ∧
    (b = false → Wout cls d σ H)
section
variable {X : Cx} {x n : Str} {c : Value} {i : Nat} {body suite : List Stmt} {b₀ : Stmt} {np pos pos' : Pos} {tb : WX → TS} {ts : Addr → Value → Option Addr → TS}
/-- try: body / except x as n: suite, where the suite runs to its end and the error stays known -/
theorem ps_try_keep (hs : X.stack = X.env :: X.outer) (hf : X.env.frame = some X.env.locals) (hN : X.N.Nodup) (hi : X.N[i]? = some n) (hln : X.env.kindOf n = some .local) (hc : Names X x c) (hex : X.ex = [])
    (hb : ∀ (W : WX) (pn : List (Addr × Obj)) (xe : Value → Shared → Prop), Takes (X.tr pn xe) W → PassesOwn (model X.prog X.w) X.A X.env xe → PSs (X.tr pn xe) body (tb W))
    (hsu : ∀ (a : Addr) (oe : Obj) (cls : Value) (d : Option Addr) (pn : List (Addr × Obj)), Zc cls d oe → (∃ vs, oe.data = .fields vs) → PSs (X.suite a ((a, oe) :: pn)) (b₀ :: suite) (ts a cls d)) :
    PS X (.Try body [.ExceptHandler (some (.Name x np)) (some n) (b₀ :: suite) pos'] [] [] pos) (fun D σ H => tb (wKeep X.K c X.N.length i ts (fun _ _ _ _ => False) D) D σ H) := by
  refine ⟨fun pins s σ H D I h => ?_⟩
  have ok := I.ok
  have hfr : X.A.frames = some (X.env :: X.outer) := by rw [ok.frames, hs]
  refine wpAny_Try_except ?_
  refine wpAny_mono ((hb (wKeep X.K c X.N.length i ts (fun _ _ _ _ => False) D) (X.pn ++ pins) (fun e s₁ => wpAny (model X.prog X.w) X.A (noteFrame e X.env) (fun _ s₂ => wpAny (model X.prog X.w) X.A (setFlight e none) (fun _ s₃ =>
    wpAny (model X.prog X.w) X.A (handleBy e X.env [.ExceptHandler (some (.Name x np)) (some n) (b₀ :: suite) pos']) (SP X pins D) X.xe s₃) X.xe s₂) X.xe s₁) (fun u s' xx => ?_) PassesOwn.looking).run [] s σ H D (I.toTry _) h) (fun f s1 hsp => ?_) (fun e s1 he => he)
  · obtain ⟨a, B, sI, pins', σ', H', cls, d, rfl, J', nb, up, sky, na, os, ag, wk⟩ := xx
    obtain ⟨b, hb1, hyes, hno⟩ := wk J'.len
    have J : Inv X pins σ' H' sI := J'.ofTry ok
    have Ba : B.get? a = none := by
      rcases sky with q | q | q
      · exact q.2.1
      · exact q.2.1
      · exact q.2.1
    have sky' : Sky B (X.env :: X.outer) a (Zc cls d) X.env.locals s'.heap := by rw [← hs]; exact sky
    show wpAny (model X.prog X.w) X.A (noteFrame (.ref a) X.env) _ _ _
    refine Sky.land Zc.steady hfr hf sky' fun h3 fl3 up3 => ?_
    have J3 : Inv X pins σ' H' { s' with heap := h3 } := J.landed nb fl3.1 (up.trans up3) os ag
    obtain ⟨oe3, vs3, he3, hz3, hd3⟩ := fl3.there
    have nfr : a ∉ frs (X.env :: X.outer) := fun hm => by
      obtain ⟨_, o', e', hnf⟩ := fl3.2.2.1.mem hm
      rw [he3] at e'
      cases e'
      exact hnf _ hd3
    have nL : a ≠ X.env.locals := fun z => nfr (List.mem_filterMap.mpr ⟨X.env, List.mem_cons_self, by rw [hf, z]⟩)
    have nF : a ∉ X.fs := fun hm => by
      obtain ⟨e, he, q⟩ := List.mem_filterMap.mp hm
      exact nfr (List.mem_filterMap.mpr ⟨e, List.mem_cons_of_mem _ he, q⟩)
    have nI : sI.heap.get? a = none := by
      cases q : sI.heap.get? a with
      | none => rfl
      | some o =>
        rw [nb a o q (by rw [hs]; exact nfr)] at Ba
        cases Ba
    have n0 : X.s_0.heap.get? a = none := by
      cases q : X.s_0.heap.get? a with
      | none => rfl
      | some o =>
        obtain ⟨o', q'⟩ := J.base.there a o q (by rw [hex]; exact List.not_mem_nil)
        rw [nI] at q'
        cases q'
    have npn : ∀ p ∈ X.pn ++ pins, p.1 ≠ a := fun p hp z => by
      have q := (J.pin p hp).1
      rw [z, nI] at q
      cases q
    have S3 := J3.suite he3 hd3 na nL nF
    refine wpAny_handleBy_cons (codeAny_handlers_test ?_) (by intro q; cases q)
    have LT : PySem.W.Looks (model X.prog X.w) h3 (typeOf (.ref a)) cls := fun A Q E s k q => wpAny_typeOf_ref (k _ _ he3) (by rw [hz3.1]; exact q)
    have LM := PySem.W.exm_one (M := model X.prog X.w) (J3.kIn) LT hb1
    have test : ∀ {Q : Value → Shared → Prop} {E : Value → Shared → Prop}, Q c { s' with heap := h3 } → wpAny (model X.prog X.w) (X.A.mark (some (.ref a))) (eval (.Name x np) X.env) Q E { s' with heap := h3 } := fun {Q E} q => by
      obtain ⟨hg, hdbg, hm | ⟨hm, hv, hnn⟩⟩ := hc
      · exact ld_glob (X := X.suite a ((a, oe3) :: (X.pn ++ pins))) S3 hg hm q hdbg
      · exact ld_blt (X := X.suite a ((a, oe3) :: (X.pn ++ pins))) S3 hg hm hv q hnn hdbg
    refine test (LM.here ?_)
    cases b with
    | false => exact (hno rfl).elim
    | true =>
      obtain ⟨C, dd, rfl, rfl, hyes⟩ := hyes rfl
      refine codeAny_handlers_suite_as ?_
      refine HandSPX.lands_againZ fl3 fun h4 fl4 up4 => ?_
      have J4 : Inv X pins σ' H' { s' with heap := h4 } := J.landed nb fl4.1 ((up.trans up3).trans up4) os ag
      obtain ⟨oe4, vs4, he4, hz4, hd4⟩ := fl4.there
      have S4 := J4.suite he4 hd4 na nL nF
      refine store_ok (X := X.suite a ((a, oe4) :: (X.pn ++ pins))) (v := .ref a) S4 hN hi (.inl hln) rfl (fun s5 S5 => ?_) (.inr hln)
      refine wpAny_mono ((hsu a oe4 (.ref C) (some dd) (X.pn ++ pins) hz4 ⟨_, hd4⟩).run [] s5 _ H' _ S5 (hyes a na)) (fun f s6 hsp => ?_) (fun _ _ z => False.elim z)
      cases f with
      | next =>
        obtain ⟨σ6, H6, S6, q6⟩ := hsp
        obtain ⟨g1, g2, _⟩ := S6.pin (a, oe4) (List.mem_append_left _ List.mem_cons_self)
        have J6 := inv_track (S6.unsuite ok) g1 hz4 hd4 g2 n0 nL npn
        exact gone_ok J6 hN hi hln fun s7 J7 => ⟨_, _, J7, q6⟩
      | brk =>
        obtain ⟨σ6, H6, S6, q6⟩ := hsp
        exact (show False from q6).elim
      | cont =>
        obtain ⟨σ6, H6, S6, q6⟩ := hsp
        exact (show False from q6).elim
      | ret u =>
        obtain ⟨v6, σ6, H6, S6, r6, q6⟩ := hsp
        exact (show False from q6).elim
  · cases f with
    | next =>
      obtain ⟨σ', H', J', q⟩ := hsp
      exact wpAny_execs_nil ⟨σ', H', J'.ofTry ok, q⟩
    | brk =>
      obtain ⟨σ', H', J', q⟩ := hsp
      exact ⟨σ', H', J'.ofTry ok, q⟩
    | cont =>
      obtain ⟨σ', H', J', q⟩ := hsp
      exact ⟨σ', H', J'.ofTry ok, q⟩
    | ret u =>
      obtain ⟨v, σ', H', J', r, q⟩ := hsp
      exact ⟨v, σ', H', J'.ofTry ok, r, q⟩
end
end Tg
end
section
set_option Elab.async false
set_option linter.all false
set_option maxRecDepth 100000
set_option maxHeartbeats 4000000
/-! Tg, part L: the end of a law whose defs make lambdas (tables of code objects), for FnG. -/
namespace Tg
open PySem PySem.Spec PyProof.Rows L2 LamX
/-- the law's def over the heap behind the top; cs: code objects with their tables -/
theorem lawGT {P : Program} {w : World} {K : PySem.W.Frag} {mg mb : Str → Option Value} {CX : CXT} {k : Nat} {fa a : Addr} {fd : FuncData} {x : Str} {sp : Sp} {s₁ : Shared} {us : List Value} {ns : List Int} {cs : List (Addr × Addr)}
    (inK : K.In s₁.heap) (gns : s₁.heap.Ns mainGlobals mg) (bns : s₁.heap.Ns builtinsNs mb) (bbt : ∀ x : Str, x ≠ "__name__" → mb x = bootBuiltins x) (lim : s₁.heap.NoLimit) (gens : s₁.gens = #[])
    (tab : ∀ p ∈ cs, s₁.heap.get? p.2 = some { cls := .none, data := .fields #[] }) (tabK : ∀ p ∈ cs, K.lookup p.2 = none) (code : ∀ p ∈ cs, PySem.W.CodeHd s₁.heap p.1 p.2)
    (bmod : ∃ (bm : Addr) (ob : Obj), mg "__builtins__" = some (.ref bm) ∧ bm ≠ builtinsNs ∧ s₁.heap.get? bm = some ob ∧ ob.cls = .type "module" ∧ ob.dict = some builtinsNs ∧ ob.data = .plain)
    (ha : s₁.heap.get? a = some { cls := .type "list", data := .seq us.toArray }) (hi : IntsAre us ns) (hl : ns.length ≤ sizeLine) (room : Room k callerA)
    (F : ∀ base : Heap, K.In base → base.Ns mainGlobals mg → (∀ p ∈ cs, TabB base mg p.1 p.2) → FnG P w K mg base CX k fa fd [x] sp) (bnd : ∀ (s : Shared) (u : Value), BindsTo s fd ⟨[u], []⟩ [(x, u)])
    (hsp : ∀ H : Hp, (∀ p ∈ cs, H p.2 = some (.tbl #[])) → SqL K H a (ns.map V.int) → sp [.ref a] H (fun v _ => v = .bl true) fun _ _ _ => False)
    (noX : ∀ H e s', CX [] H s₁ (fun _ _ _ => False) e s' → False) :
    codeAny (model P w) callerA (.call (.ref fa) ⟨[.ref a], []⟩) (fun r s' => r = .ok (.ret (.bool true)) ∧ OldK s₁.heap s'.heap ∧ s'.os = s₁.os ∧ AllBare s'.gens) s₁ := by
  have relI : Vals (ns.map V.int) us := vals_ints hi
  have lenI := hi.length
  have tabAt : ∀ b, b ∈ cs.map (·.2) → s₁.heap.get? b = some { cls := .none, data := .fields #[] } := by
    intro b hb
    obtain ⟨p, hp, e⟩ := List.mem_map.mp hb
    subst e
    exact tab p hp
  have inT : ∀ p ∈ cs, p.2 ∈ cs.map (·.2) := fun p hp => List.mem_map.mpr ⟨p, hp, rfl⟩
  have aNo : a ∉ cs.map (·.2) := by
    intro z
    have q := (tabAt a z).symm.trans ha
    injection q with q
    injection q with _ _ q
    cases q
  suffices main : ∀ H : Hp, (∀ b, b ∈ cs.map (·.2) → H b = some (.tbl #[])) → SqL K H a (ns.map V.int) → HOk P w H s₁.heap → (∀ b u, H b = some u → b ∈ cs.map (·.2) ∨ (b = a ∧ ∃ o xs, u = .frz o (.lst xs) ∧ K.lookup a = none)) →
      codeAny (model P w) callerA (.call (.ref fa) ⟨[.ref a], []⟩) (fun r s' => r = .ok (.ret (.bool true)) ∧ OldK s₁.heap s'.heap ∧ s'.os = s₁.os ∧ AllBare s'.gens) s₁ by
    cases known : K.lookup a with
    | none =>
      let o : Obj := { cls := .type "list", data := .seq us.toArray }
      let H : Hp := fun b => if b = a then some (.frz o (.lst (ns.map V.int))) else if b ∈ cs.map (·.2) then some (.tbl #[]) else none
      have Ha : H a = some (.frz o (.lst (ns.map V.int))) := if_pos rfl
      have Hn : ∀ b, b ≠ a → H b = if b ∈ cs.map (·.2) then some (.tbl #[]) else none := fun b hb => if_neg hb
      apply main H
      · intro b hb
        rw [Hn b (fun z => aNo (z ▸ hb)), if_pos hb]
      · exact .inl (.inr ⟨o, Ha⟩)
      · intro b u z
        by_cases hb : b = a
        · subst hb
          rw [Ha] at z
          cases z
          exact ⟨ha, by rw [List.length_map]; exact hl, us, _, relI, ha⟩
        · rw [Hn b hb] at z
          by_cases ht : b ∈ cs.map (·.2)
          · rw [if_pos ht] at z
            cases z
            exact tabAt b ht
          · rw [if_neg ht] at z
            cases z
      · intro b u z
        by_cases hb : b = a
        · subst hb
          rw [Ha] at z
          cases z
          exact .inr ⟨rfl, _, _, rfl, known⟩
        · rw [Hn b hb] at z
          by_cases ht : b ∈ cs.map (·.2)
          · exact .inl ht
          · rw [if_neg ht] at z
            cases z
    | some o =>
      have e := inK a o known
      rw [ha] at e
      cases e
      apply main fun b => if b ∈ cs.map (·.2) then some (.tbl #[]) else none
      · exact fun b hb => if_pos hb
      · exact .inr ⟨_, us.toArray, _, known, rfl, rfl, rfl, by rw [List.size_toArray, lenI]; exact hl, by simpa using relI⟩
      · intro b u z
        by_cases ht : b ∈ cs.map (·.2)
        · have z' := (if_pos ht).symm.trans z
          cases z'
          exact tabAt b ht
        · have z' := (if_neg ht).symm.trans z
          cases z'
      · intro b u z
        by_cases ht : b ∈ cs.map (·.2)
        · exact .inl ht
        · have z' := (if_neg ht).symm.trans z
          cases z'
  intro H tabH sq hok who
  have kept : ∀ {b : Addr} {o : Obj}, s₁.heap.get? b = some o → H b = none → (hidT s₁.heap H).get? b = some o := fun e n => hidT_get e n
  have free : ∀ {b : Addr} {o : Obj}, s₁.heap.get? b = some o → (∀ vs n, o.data ≠ .seq vs n) → o.data ≠ .fields #[] → H b = none := by
    intro b o e n1 n2
    cases q : H b with
    | none => rfl
    | some u =>
      rcases who b u q with hb | ⟨hb, _⟩
      · rw [tabAt b hb] at e
        cases e
        exact absurd rfl n2
      · subst hb
        rw [ha] at e
        cases e
        exact absurd rfl (n1 _ _)
  have nsOf : ∀ {b : Addr} {m : Str → Option Value}, s₁.heap.Ns b m → (hidT s₁.heap H).Ns b m := by
    rintro b m ⟨o, es, ep, e, d, r⟩
    exact ⟨o, es, ep, kept e (free e (fun vs n z => by rw [d] at z; cases z) (fun z => by rw [d] at z; cases z)), d, r⟩
  have inB : K.In (hidT s₁.heap H) := by
    intro b o e
    apply kept (inK b o e)
    cases q : H b with
    | none => rfl
    | some u =>
      rcases who b u q with hb | ⟨hb, _, _, _, no⟩
      · obtain ⟨p, hp, ep⟩ := List.mem_map.mp hb
        subst ep
        rw [tabK p hp] at e
        cases e
      · subst hb
        rw [no] at e
        cases e
  have tabB : ∀ p ∈ cs, TabB (hidT s₁.heap H) mg p.1 p.2 := by
    intro p hp
    have tp := tab p hp
    constructor
    · obtain ⟨o, vs, file, tf, flags, tg, inF, text, tt, e1, r1, r2, r3, r⟩ := code p hp
      refine ⟨o, vs, file, tf, flags, tg, inF, text, tt, kept e1 (free e1 (fun vs n z => by rw [r2] at z; cases z) fun z => ?_), r1, r2, r3, r⟩
      rw [r2] at z
      cases z
      simp at r3
    · obtain ⟨bm, ob, b1, b2, b3, b4, b5, b6⟩ := bmod
      refine ⟨bm, ob, b1, b2, fun q => ?_, fun q => ?_, kept b3 (free b3 (fun vs n z => by rw [b6] at z; cases z) fun z => by rw [b6] at z; cases z), b4, b5, b6⟩
      · obtain ⟨o, es, ep, e, d, _⟩ := gns
        rw [q, e] at b3
        cases b3
        rw [d] at b6
        cases b6
      · rw [q, tp] at b3
        cases b3
        cases b6
    · intro q
      obtain ⟨o, es, ep, e, d, _⟩ := gns
      rw [q, tp] at e
      cases e
      cases d
  obtain ⟨mc, l1, l2⟩ := lim
  have md : L2.Mod K mg (hidT s₁.heap H) := ⟨inB, nsOf gns, ⟨mb, nsOf bns, bbt⟩, ⟨mc, nsOf l1, l2⟩⟩
  have none0 : ∀ b : Addr, b ∉ ([] : List Addr) := fun b => List.not_mem_nil
  have en : Env0 P w K mg (hidT s₁.heap H) callerA [] s₁ H :=
    ⟨rfl, md, fun b o e => of_hidT e, Nat.le_of_eq (hidT_size _ _), trivial, fun b hb => absurd hb (none0 b), hok, .of_eq gens⟩
  have ran := (F _ inB (nsOf gns) tabB).go callerA [] s₁ H ⟨[.ref a], []⟩ [.ref a] [.ref a] _ _ rfl room en (bnd s₁ (.ref a)) (.cons rfl .nil) (hsp H (fun p hp => tabH _ (inT p hp)) sq)
  refine codeAny_mono ran ?_
  intro r s' h
  match r, h with
  | .error er, h => exact (noX H er s' h).elim
  | .ok .next, h => exact False.elim h
  | .ok .brk, h => exact False.elim h
  | .ok .cont, h => exact False.elim h
  | .ok (.ret u), ⟨v, H', hos, bare, un, hok', rv, q⟩ =>
    have q' : v = .bl true := q
    subst q'
    have ru : u = Value.bool true := rv
    subst ru
    have rest : ∀ b o, b ∉ cs.map (·.2) → s₁.heap.get? b = some o → s'.heap.get? b = some o := by
      intro b o nb e
      cases z : H b with
      | none => exact un.keep b o e z (none0 b) (none0 b)
      | some u =>
        rcases who b u z with hb | ⟨hb, ob, xs, e0, _⟩
        · exact absurd hb nb
        · subst e0
          obtain ⟨e1, _⟩ := hok b _ z
          obtain ⟨e2, _⟩ := hok' b _ (un.frzs b ob _ z)
          exact e2.trans (e1.symm.trans e)
    have grew : ∀ p ∈ cs, ∃ more : Array Value, s'.heap.get? p.2 = some { cls := .none, data := .fields more } := by
      intro p hp
      obtain ⟨more, z⟩ := un.tbls p.2 #[] (tabH _ (inT p hp))
      exact ⟨_, hok' p.2 _ z⟩
    refine ⟨rfl, ⟨fun b o e => ?_, fun b o e => ?_⟩, hos, bare⟩ <;> by_cases hb : b ∈ cs.map (·.2)
    · obtain ⟨p, hp, ep⟩ := List.mem_map.mp hb
      subst ep
      obtain ⟨more, hm⟩ := grew p hp
      rw [tab p hp] at e
      cases e
      exact .inr (.inl ⟨((code p hp).tab (tab p hp)).isCodeTable, rfl, #[], more, rfl, by rw [Array.empty_append]; exact hm⟩)
    · exact .inl (rest b o hb e)
    · obtain ⟨p, hp, ep⟩ := List.mem_map.mp hb
      subst ep
      obtain ⟨more, hm⟩ := grew p hp
      exact ⟨_, hm⟩
    · exact ⟨o, rest b o hb e⟩
/-- what is known of the law at the head's heap h -/
def AtGT (l : PySem.W.OpenLaw) (w : World) (K : PySem.W.Frag) (CX : CXT) (k n : Nat) (x : Str) (mg : Str → Option Value) (fa : Addr) (h : Heap) : Prop :=
  ∃ (fd : FuncData) (cs : List (Addr × Addr)) (sp : Sp), (∀ p ∈ cs, h.get? p.2 = some { cls := .none, data := .fields #[] }) ∧ (∀ p ∈ cs, K.lookup p.2 = none) ∧ (∀ p ∈ cs, PySem.W.CodeHd h p.1 p.2) ∧ (∀ (s : Shared) (u : Value), BindsTo s fd ⟨[u], []⟩ [(x, u)]) ∧
    (∀ (H : Hp) (a : Addr) (ns : List Int), ns.length ≤ n → (∀ p ∈ cs, H p.2 = some (.tbl #[])) → SqL K H a (ns.map V.int) → sp [.ref a] H (fun v _ => v = .bl true) fun _ _ _ => False) ∧
    ∀ base : Heap, K.In base → base.Ns mainGlobals mg → (∀ p ∈ cs, TabB base mg p.1 p.2) → FnG l.prog w K mg base CX k fa fd [x] sp
/-- the goal that k_head leaves, where lambdas are made -/
theorem walkGT {l : PySem.W.OpenLaw} {n k : Nat} {q : Program} {loose : List Str} {XP : (Str → Option Value) → Heap → Prop} {YP : World → Heap → Prop} {d : DefRec} {K : Params → PySem.W.Frag} {CX : World → CXT} {x : Str}
    (hn : l.most = some n) (hz : n ≤ sizeLine) (hdf : d.params.defaults = []) (room : Room k callerA) (hY : ∀ (w : World) (h : Heap), YP w h → (K w.params).In h)
    (F : ∀ (w : World) (mg : Str → Option Value) (fa : Addr) (h : Heap), YP w h → (K w.params).In h → h.Ns mainGlobals mg → mg d.name = some (.ref fa) → AtGT l w (K w.params) (CX w) k n x mg fa h)
    (noX : ∀ (w : World) (H : Hp) (s : Shared) (e : Value) (s' : Shared), CX w [] H s (fun _ _ _ => False) e s' → False) :
    PySem.W.WalkO q loose XP YP l.row.toRowW d [] (fun f vs => PySem.call f vs) := by
  apply Att.attach_callB hn hdf
  intro w s₀ s₁ mg mb fa o pm cd doc a vs ns G Y ho hd hcd hmg hobj hints hlen hbits hg
  have inK := hY w _ Y
  obtain ⟨fd, cs, sp, t1, t2, t3, bnd, hsp, hF⟩ := F w mg fa _ Y inK G.T.g hmg
  exact lawGT inK G.T.g G.T.b G.T.builtins G.T.nolimit hg t1 t2 t3 G.T.bmain hobj hints (Nat.le_trans hlen hz) room hF bnd (fun H hT hS => hsp H a ns hlen hT hS) fun H e s' => noX w H s₁ e s'
end Tg
end
section
set_option Elab.async false
set_option linter.all false
set_option maxRecDepth 100000
set_option maxHeartbeats 4000000
/-! Tg, part M: comprehensions whose parts are made anew. -/
namespace Tg
open PySem PySem.Spec PyProof.Rows L2
/-- a comprehension: A holds ahead of turn i, R of what turn i gives -/
theorem lc_gen {J : It} {n : Nat} {G : Hp → Prop} {Y : Nat → Hp → V → Hp → Prop} (w : Walk J n G Y) {g : TG} {te : TE} {vs : List Nat} {σ : L2.St} {H1 : Hp} {D : Addr} {Qd : Hp → Prop} (A : Nat → Hp → Prop) (R : Nat → V → Hp → Prop)
    (hA : ∀ i H xs ys, A i H → H D = some (.lst ys) → A i (upd H D (.lst xs))) (hR : ∀ i v H H', R i v H → Kp H H' → R i v H') (hn : n ≤ 1000) (h0 : A 0 (upd H1 D (.lst []))) (hG : ∀ i H, i ≤ n → A i H → G H)
    (hs : ∀ i x H H' acc, i < n → A i H → H D = some (.lst acc) → Y i H x H' → ∀ Qc : VK, (∀ v H4, H4 D = some (.lst acc) → Kp H H4 → A (i + 1) H4 → R i v H4 → Qc v H4) → g x (wipe σ vs) H' fun σ2 H2 => wipe σ2 vs = wipe σ vs ∧ te σ2 H2 Qc)
    (hd : ∀ H xs, A n H → H D = some (.lst xs) → xs.length = n → (∀ (i : Nat) v, xs[i]? = some v → R i v H) → Qd H) :
    ∃ W : Nat → Nat → Hp → Prop, (∃ m, W 0 m (upd H1 D (.lst []))) ∧ ∀ i m H, W i m H →
      (J.stop i H ∧ Qd H) ∨ (J.go i H ∧ ∃ Nx : Hp → Prop, (∀ H', Nx H' → ∃ m', m' < m ∧ W (i + 1) m' H') ∧ ∀ x H', J.yld i H x H' → g x (wipe σ vs) H' fun σ2 H2 => wipe σ2 vs = wipe σ vs ∧ tYes σ2 H2 fun b H3 =>
        if b = true then te σ2 H3 fun y H4 => ∃ acc, H4 D = some (.lst acc) ∧ acc.length < sizeLine ∧ Nx (upd H4 D (.lst (acc ++ [y]))) else Nx H3) := by
  refine lc_it w (fun j H => A j H ∧ ∃ acc : List V, H D = some (.lst acc) ∧ acc.length = j ∧ ∀ (i : Nat) v, acc[i]? = some v → R i v H) ⟨h0, [], upd_same, rfl, fun i v z => nomatch z⟩ (fun i H hi p => hG i H hi p.1) ?_ fun H p => ?_
  · rintro i x H H' hi ⟨a, acc, hD, hl, hr⟩ y
    refine hs i x H H' acc hi a hD y _ fun v H4 hD4 kp a4 r4 => ?_
    have kp2 : Kp H4 (upd H4 D (.lst (acc ++ [v]))) := Kp.put hD4 (fun _ _ z => nomatch z) (fun _ z => nomatch z) (fun _ _ _ z => nomatch z)
    refine ⟨acc, hD4, ?_, hA _ _ _ _ a4 hD4, _, upd_same, ?_, fun j u hu => ?_⟩
    · rw [sizeLine_eq]
      omega
    · rw [List.length_append, hl]
      rfl
    · by_cases hj : j < acc.length
      · rw [List.getElem?_append_left hj] at hu
        exact hR _ _ _ _ (hr j u hu) (kp.trans kp2)
      · rw [List.getElem?_append_right (by omega)] at hu
        have hj0 : j - acc.length = 0 := by
          by_cases q : j - acc.length = 0
          · exact q
          · rw [List.getElem?_eq_none (by simp; omega)] at hu
            cases hu
        rw [hj0] at hu
        cases hu
        have : j = i := by omega
        subst this
        exact hR _ _ _ _ r4 kp2
  · obtain ⟨a, acc, hD, hl, hr⟩ := p
    exact hd H acc a hD hl hr
/-- data, one by one -/
theorem rpL_of {H : Hp} {P : Nat → PyData → Prop} : ∀ {xs : List V}, (∀ (i : Nat) v, xs[i]? = some v → ∃ d, P i d ∧ Rp H d v) → ∃ ds, RpL H ds xs ∧ ds.length = xs.length ∧ ∀ (i : Nat) d, ds[i]? = some d → P i d := by
  intro xs
  induction xs generalizing P with
  | nil => exact fun _ => ⟨[], RpL.nil, rfl, fun i d z => by simp at z⟩
  | cons x xs ih =>
    intro h
    obtain ⟨d, p, r⟩ := h 0 x rfl
    obtain ⟨ds, r2, l, p2⟩ := ih (P := fun i => P (i + 1)) fun i v z => h (i + 1) v (by simpa using z)
    refine ⟨d :: ds, RpL.cons r r2, by simp [l], fun i e z => ?_⟩
    cases i with
    | zero => simp at z; subst z; exact p
    | succ i => exact p2 i e (by simpa using z)
end Tg
end
section
set_option Elab.async false
set_option linter.all false
set_option maxRecDepth 100000
set_option maxHeartbeats 4000000
/-! Tg, part N: xs != [], d != {}. -/
namespace Tg
open PySem PySem.Spec PyProof.Rows L2
section
variable {X : Cx}
/-- xs != [] -/
def rNeL0 (K : PySem.W.Frag) : R2 := fun x y H Q => ∃ a b xs, x = .ref a ∧ y = .ref b ∧ SqL K H a xs ∧ SqL K H b [] ∧ Q (.bl (!xs.isEmpty)) H
theorem op_neL0 (hu : X.A.units < cLine) : OpR X (compareOp .NotEq) (rNeL0 X.K) := by
  intro pins s σ H x y v u Q I rx ry h
  obtain ⟨a, b, xs, rfl, rfl, ha, hb, q⟩ := h
  cases rx
  cases ry
  obtain ⟨i1, r1, ⟨o1, n1, g1, c1, _, d1⟩, _⟩ := I.list ha
  obtain ⟨i2, r2, ⟨o2, n2, g2, c2, _, d2⟩, _⟩ := I.list hb
  cases r2
  have l1 : s.heap.IsList a i1.toArray := ⟨_, g1, c1, _, d1⟩
  have l2 : s.heap.IsList b ([] : List Value).toArray := ⟨_, g2, c2, _, d2⟩
  cases r1 with
  | nil =>
    refine SeqAt.RcNeAt.lists (e := fun _ => true) l1 l2 rfl hu (fun j h1 => absurd h1 (Nat.not_lt_zero _)) _ _ _ _ ?_
    exact ⟨.bl false, H, I, rfl, q⟩
  | cons _ _ =>
    refine SeqAt.RcNeAt.lists_lengths l1 l2 (by simp) hu _ _ _ _ ?_
    exact ⟨.bl true, H, I, rfl, q⟩
/-- d != {}, d locked -/
def rNeD0 : R2 := fun x y H Q => ∃ a b o kvs, x = .ref a ∧ y = .ref b ∧ H a = some (.frz o (.dK kvs)) ∧ H b = some (.dK []) ∧ Q (.bl (!kvs.isEmpty)) H
theorem op_neD0 (hu : X.A.units < cLine) : OpR X (compareOp .NotEq) rNeD0 := by
  intro pins s σ H x y v u Q I rx ry h
  obtain ⟨a, b, o, kvs, rfl, rfl, ea, eb, q⟩ := h
  cases rx
  cases ry
  obtain ⟨hs, hgd, hx, es, ep, va, hdt, hsz, ra, hm⟩ := I.frzK ea
  obtain ⟨_, yb, vb, rb, db⟩ := (show ObjOk X.prog X.w H s.heap b (.dK []) from I.hok b _ eb)
  cases rb
  have hl : kvs.length = va.length := Paired.length ra
  refine PySem.W.keq_ne (knd := mixKind X.prog X.w) (r := true) hs yb hm.dictOf db hu (fun z => ?_) ⟨.bl _, H, I, ?_, q⟩
  · cases va with
    | nil => exact .nil
    | cons _ _ => cases z
  · show Value.bool _ = Value.bool _
    cases kvs <;> cases va <;> first | rfl | cases hl
end
end Tg
end
section
set_option Elab.async false
set_option linter.all false
set_option maxRecDepth 100000
set_option maxHeartbeats 4000000
/-! Tg, part O: list(d.items()) of a locked dict. -/
namespace Tg
open PySem PySem.Spec PyProof.Rows L2
def tLiF (te : TE) : TE := fun σ H Q => te σ H fun x H1 => ∃ (d : Addr) (o : Obj) (kvs : List (Key × V)), x = .ref d ∧ H1 d = some (.frz o (.dK kvs)) ∧
  ∀ (H' : Hp) (p : Addr) (ts : List Addr), Same H1 H' → H1 p = none → H' p = some (.lst (ts.map V.ref)) → Paired (fun (t : Addr) (q : Key × V) => H' t = some (.tup [kV q.1, q.2])) ts kvs → Q (.ref p) H'
section
variable {X : Cx} {e : Expr} {te : TE} {p ap cp pos : Pos}
theorem pe_liF (calm : X.calm = true) (he : PE X e te) (hg : Gl X "list") (hm : X.mg "list" = none) (hv : bootBuiltins "list" = some (.type "list")) (hb : attributeBase e "items" X.env (eval e X.env) = eval e X.env := by rfl) (hl : (ap.endLine == cp.line) = true := by rfl)
    (hs : starEach [.Call (.Attribute e "items" ap) [] [] cp] X.env = (false, eval (.Call (.Attribute e "items" ap) [] [] cp) X.env) :: starEach [] X.env := by rfl) :
    PE X (.Call (.Name "list" p) [.Call (.Attribute e "items" ap) [] [] cp] [] pos) (tLiF te) := by
  refine ⟨fun pins s σ H Q I hq => wpAny_Call_Name_kw (ld_blt I hg hm hv (PyProof.Rows.callWith_type1 ?_ hs rfl))⟩
  rw [hs]
  show wpAny _ _ (spliced ((false, eval (.Call (.Attribute e "items" ap) [] [] cp) X.env) :: backTo pos (starEach [] X.env))) _ _ s
  refine Calls.spliced_cons (wpAny_Call_method (T := "dict") (id := "dict.items") hb rfl hl F.plainAttrs_dict F.slot_dict_items F.type_dict_items (thn (he.run pins s σ H _ I hq) fun u s1 ⟨x, H1, J, rx, d, o, kvs, ex, hd, q⟩ => ?_))
  subst ex
  cases (show u = Value.ref d from rx)
  obtain ⟨_, zl, _⟩ := J.hok d _ hd
  obtain ⟨sm, _, _, es, ep, vs, _, _, kv, at_⟩ := J.frzK hd
  have ofd := at_.dictOf
  have len2 : kvs.length = vs.length := Paired.length kv
  have J2 : Inv X pins σ H1 { s1 with heap := s1.heap.push { cls := .type "dict_items", data := .fields #[.ref d] } } := J.kept (t' := s1.toks) fun _ _ z => Heap.get?_push_of_some _ z
  refine ⟨ofd.typeIs, ofd.mapOf.noDict, ?_⟩
  show wpAny _ _ (callWith cp (.builtin "dict.items") [.ref d] [] []) _ X.xe s1
  refine method_meetsIn F.slot_dict_items F.entry_dict_items rfl (PySem.evalArgs_none ⟨rfl, ofd.typeIs, F.args_dict_items_1 _, _, meets_dict_items (mixKind X.prog X.w) d sm, ⟨vs, ofd⟩, Calls.spliced_nil ?_⟩)
  refine PySem.W.kdx_call (knd := mixKind X.prog X.w) (kvs := vs) (ep := ep) (J.ok.hd calm) ⟨_, Heap.get?_push_size _ rfl, rfl, rfl⟩ (at_.push _) (by omega) fun hp tk acc c as w1 w2 w3 w4 w5 => ?_
  obtain ⟨H', k1, k2, k3, k4, k5, k6, J3⟩ := LiI.items_laid (tk := tk) J2 zl kv w1 w2 w3 w4 w5
  exact ⟨.ref _, H', J3, rfl, q H' _ as k1 k2 k5 k6⟩
end
end Tg
end
section
set_option Elab.async false
set_option linter.all false
set_option maxRecDepth 100000
set_option maxHeartbeats 4000000
/-! Tg, part P: xs.count(y) of flat values. -/
namespace Tg
open PySem PySem.Spec PyProof.Rows L2
theorem count_eqU {x : V} : ∀ {xs : List V} {us : List Value}, Vals xs us → xs.all flatV = true → us.countP (eqU x) = xs.countP fun y => eqV y x
  | _, _, .nil, _ => rfl
  | y :: xs, u :: us, .cons r t, f => by
    rw [List.all_cons, Bool.and_eq_true] at f
    rw [List.countP_cons, List.countP_cons, eqU_of r f.1, count_eqU t f.2]
section
variable {X : Cx}
def rCntV (K : PySem.W.Frag) : V → List V → Hp → VK → Prop := fun x xs H Q => ∃ (a : Addr) (ys : List V) (y : V), x = .ref a ∧ xs = [y] ∧ SqL K H a ys ∧ flatV y = true ∧ ys.all flatV = true ∧ Q (.int (ys.countP fun z => eqV z y : Nat)) H
theorem mt_countV : MtR X "list.count" (rCntV X.K) := by
  intro pins s σ H x xs v us Q I rx rxs h
  obtain ⟨a, ys, y, rfl, rfl, hs, fy, fys, q⟩ := h
  cases rx
  cases rxs with
  | cons ry rt =>
    rename_i uy ut
    cases rt
    obtain ⟨its, rv, ⟨⟨cl, dd, dat, sl⟩, n, ho, h1, _, h2⟩, _⟩ := I.list hs
    simp only at h1 h2
    subst h1 h2
    refine call_meets PySem.F.slot_list_count ⟨_, ho, rfl⟩ PySem.F.entry_list_count (PySem.F.args_list_count_2 _ _) (SeqAt.list_countAt a its.toArray n dd sl uy (eqU y)) ⟨ho, fun z hz => mem_eqAt ry fy rv fys z (by simpa using hz), ?_⟩
    refine ⟨.int (ys.countP fun z => eqV z y : Nat), H, I.tok _, ⟨s.toks, ?_⟩, q⟩
    show Value.int ((its.toArray.toList.countP (eqU y) : Nat) : Int) s.toks = _
    rw [show its.toArray.toList = its from rfl, count_eqU rv fys]
end
end Tg
end
section
set_option Elab.async false
set_option linter.all false
set_option maxRecDepth 100000
set_option maxHeartbeats 4000000
/-! Tg, part Q: a def whose code object is known (it makes a lambda). -/
namespace Tg
open PySem PySem.Spec PyProof.Rows L2 LamX
structure FunC (K : PySem.W.Frag) (x ql : Str) (st : Stmt) (f : Addr) (fd : FuncData) (c : Addr) : Prop where
  ex : ∃ (oc : Value) (od : Option Addr) (kV doc pm : Value) (an : Option Addr) (ct : Value) (osl : Array (Option Value)),
    fd = PySem.W.fnOf x ql (defArgs st) (defBody st) (defScope st) .none kV doc pm an (.ref c) ct ∧ K.lookup f = some ⟨oc, od, .func fd, osl⟩ ∧ PySem.W.codeIn K (.ref c) ql = true
section
variable {P : Program} {w : World} {K : PySem.W.Frag} {mg : Str → Option Value} {base : Heap}
theorem funGC {x ql : Str} {st : Stmt} {f c : Addr} {fd : FuncData} {N ps : List Str} {k : Nat} {sp : Sp} (F : FunC K x ql st f fd c) (S : FnScope N ps (defScope st)) (len : ∀ vs H Q E, sp vs H Q E → vs.length = ps.length)
    (hb : ∀ (A : Around) (fr : List Env) (s : Shared) (H : Hp) (vs : List V) (Q : VK) (E : XK), A.guards = some [] → Room k (A.deeper (envOfC ql (defScope st) s.heap.objs.size f (.ref c))) → sp vs H Q E →
      ∃ t, PSs (cxOf CX0 P w K mg base N ql (defScope st) f (.ref c) A fr s H E).nox (defBody st) t ∧ t { nx := fun _ H' => Q .non H', rt := Q } (start N vs) H) : FnG P w K mg base CX0 (k + 1) f fd ps sp := by
  obtain ⟨_, _, _, _, _, _, _, _, rfl, lk, hc⟩ := F.ex
  exact fnG_of lk hc S len fun A fr s H vs Q E hg hr hsp => by
    obtain ⟨t, h, q⟩ := hb A fr s H vs Q E hg hr hsp
    exact ⟨t, h.nox, q⟩
end
theorem ExtN.kp {H H' : Hp} (e : ExtN H H') : Kp H H' := ⟨fun _ _ _ q => e _ _ q (fun _ z => nomatch z), fun _ _ q => e _ _ q (fun _ z => nomatch z), fun _ _ _ _ q => e _ _ q (fun _ z => nomatch z)⟩
theorem Rp.extN {H H' : Hp} {d : PyData} {v : V} (r : Rp H d v) (e : ExtN H H') : Rp H' d v := r.keep (ExtN.kp e)
theorem ExtN.same {H H' : Hp} (s : Same H H') : ExtN H H' := fun b o q _ => s b o q
end Tg
end
section
set_option Elab.async false
set_option linter.all false
set_option maxRecDepth 100000
set_option maxHeartbeats 4000000
/-! Tg, part R: readings over data alone (Dw): what stands still is data, what is one's own is a list, a dict or the pot. -/
namespace Dw
open PySem PySem.Spec PyProof.Rows L2 Tg LamX
/-- what a slot holds -/
inductive OV where
  | d (x : PyData) | o (C : Addr) (fs : List (Str × OV))
mutual
/-- what stands still: data, or an instance of such -/
def RpO (H : Hp) : OV → V → Prop
  | .d x, v => Rp H x v
  | .o C fs, v => ∃ a dx vs, v = .ref a ∧ H a = some (.ins C dx vs) ∧ RpF H fs vs
def RpF (H : Hp) : List (Str × OV) → List (Str × V) → Prop
  | [], vs => vs = []
  | (x, y) :: r, vs => ∃ v r', vs = (x, v) :: r' ∧ RpO H y v ∧ RpF H r r'
end
mutual
theorem RpO.keep {H H' : Hp} (k : Kp H H') : ∀ (y : OV) (v : V), RpO H y v → RpO H' y v
  | .d x, v, h => by
    simp only [RpO] at h ⊢
    exact Rp.keep k _ _ h
  | .o C fs, v, h => by
    simp only [RpO] at h ⊢
    obtain ⟨a, dx, vs, e, ha, r⟩ := h
    exact ⟨a, dx, vs, e, k.ins _ _ _ _ ha, RpF.keep k fs vs r⟩
theorem RpF.keep {H H' : Hp} (k : Kp H H') : ∀ (fs : List (Str × OV)) (vs : List (Str × V)), RpF H fs vs → RpF H' fs vs
  | [], vs, h => by simpa only [RpF] using h
  | (x, y) :: r, vs, h => by
    simp only [RpF] at h ⊢
    obtain ⟨v, r', e, h1, h2⟩ := h
    exact ⟨v, r', e, RpO.keep k y v h1, RpF.keep k r r' h2⟩
end
inductive DV where
  | d (x : PyData) | l (xs : List PyData) | m (kvs : List (PyData × PyData)) | pot (p : Addr) (c : Int) | v (x : V) | o (y : OV)
def DV.mt : DV → Bool
  | .l _ | .m _ | .pot _ _ => true
  | _ => false
def DV.ow : DV → Bool
  | .l _ | .m _ => true
  | _ => false
abbrev DSt := List (Option DV)
abbrev TD := DSt → (PyData → DSt → Prop) → Prop
/-- the pot -/
structure PotAt (H : Hp) (p : Addr) (c : Int) : Prop where
  ex : ∃ x y z : Int, H p = some (.lst [.int x, .int y, .int z]) ∧ 0 ≤ x ∧ 0 ≤ y ∧ y < 2305843009213693921 ∧ 0 ≤ z ∧ z ≤ c
theorem PotAt.up {H : Hp} {p : Addr} {c c' : Int} (h : PotAt H p c) (l : c ≤ c') : PotAt H p c' := by
  obtain ⟨x, y, z, e, a, b, d, f, g⟩ := h.ex
  exact ⟨x, y, z, e, a, b, d, f, by omega⟩
def But (p : Addr) (H H' : Hp) : Prop := ∀ b o, b ≠ p → H b = some o → H' b = some o
theorem But.same {p : Addr} {H H' : Hp} (s : Same H H') : But p H H' := fun b o _ e => s b o e
theorem But.trans {p : Addr} {H H1 H2 : Hp} (a : But p H H1) (b : But p H1 H2) : But p H H2 := fun c o n e => b c o n (a c o n e)
theorem But.upd {p : Addr} {H : Hp} {o : HO} : But p H (upd H p o) := fun b u n e => by rw [upd_ne n]; exact e
def LD : HO → Prop
  | .lst _ => True
  | .dK _ => True
  | _ => False
theorem kp_but {H H' : Hp} {p : Addr} {u : HO} (h : H p = some u) (ld : LD u) (b : But p H H') : Kp H H' :=
  ⟨fun a o w q => b a _ (ne_of q h (fun z => by rw [← z] at ld; exact ld)) q, fun a xs q => b a _ (ne_of q h (fun z => by rw [← z] at ld; exact ld)) q, fun a _ _ _ q => b a _ (ne_of q h (fun z => by rw [← z] at ld; exact ld)) q⟩
/-- all stays but S; a table stays a table -/
def Fr (S : Addr → Prop) (H H' : Hp) : Prop := ∀ b o, ¬ S b → H b = some o → H' b = some o ∨ ∃ ps ps', o = .tbl ps ∧ H' b = some (.tbl ps')
structure DC where
  H0 : Hp
  S : Addr → Prop
  N : Addr → Prop
  J : Hp → Prop
  js : ∀ H H', Same H H' → J H → J H'
  jb : ∀ H H' p u, H p = some u → LD u → ¬ N p → But p H H' → J H → J H'
  ju : ∀ H p o u, H p = some (.frz o u) → LD u → ¬ N p → J H → J (upd H p u)
def Dv (C : DC) (H : Hp) : DV → V → Prop
  | .d x, w => Rp H x w
  | .l xs, w => ∃ a vs, w = .ref a ∧ H a = some (.lst vs) ∧ RpL H xs vs ∧ C.H0 a = none ∧ ¬ C.S a ∧ ¬ C.N a
  | .m kvs, w => ∃ a ks, w = .ref a ∧ H a = some (.dK ks) ∧ RpD H kvs ks ∧ C.H0 a = none ∧ ¬ C.S a ∧ ¬ C.N a
  | .pot p c, w => w = .ref p ∧ PotAt H p c ∧ (C.S p ∨ C.H0 p = none) ∧ ¬ C.N p
  | .v x, w => w = x
  | .o y, w => RpO H y w
structure DI (C : DC) (ρ : DSt) (σ : L2.St) (H : Hp) : Prop where
  len : ρ.length = σ.length
  at_ : ∀ (i : Nat) dv, ρ[i]? = some (some dv) → ∃ w, σ[i]? = some (some w) ∧ Dv C H dv w
  sep : ∀ (i j : Nat) x y w, ρ[i]? = some (some x) → ρ[j]? = some (some y) → x.mt = true → y.mt = true → σ[i]? = some (some w) → σ[j]? = some (some w) → i = j
  fr : Fr C.S C.H0 H
  sx : ∀ b, C.S b → ∃ xs, H b = some (.lst xs)
  nx : ∀ b, C.N b → ∃ o, H b = some o
  j : C.J H
section
variable {C : DC} {ρ : DSt} {σ : L2.St} {H H' : Hp}
theorem Dv.same {dv : DV} {w : V} (h : Dv C H dv w) (s : Same H H') : Dv C H' dv w := by
  cases dv with
  | d x => exact Rp.same (show Rp H x w from h) s
  | l xs =>
    obtain ⟨a, vs, e, h1, h2, h3⟩ := h
    exact ⟨a, vs, e, s _ _ h1, h2.same s, h3⟩
  | m kvs =>
    obtain ⟨a, ks, e, h1, h2, h3⟩ := h
    exact ⟨a, ks, e, s _ _ h1, RpD.keep (Kp.same s) _ _ h2, h3⟩
  | pot p c =>
    obtain ⟨e, ⟨x, y, z, h1, h2⟩, h3⟩ := h
    exact ⟨e, ⟨x, y, z, s _ _ h1, h2⟩, h3⟩
  | v x => exact h
  | o y => exact RpO.keep (Kp.same s) y w h
/-- a place whose thing is changed is not the slot's -/
theorem Dv.but {dv : DV} {w : V} {p : Addr} {u : HO} (h : Dv C H dv w) (hp : H p = some u) (ld : LD u) (b : But p H H') (ne : dv.mt = true → w ≠ .ref p) : Dv C H' dv w := by
  have kp := kp_but hp ld b
  cases dv with
  | d x => exact Rp.keep kp _ _ (show Rp H x w from h)
  | l xs =>
    obtain ⟨a, vs, e, h1, h2, h3⟩ := h
    exact ⟨a, vs, e, b _ _ (fun z => ne rfl (by rw [e, z])) h1, RpL.keep kp _ _ h2, h3⟩
  | m kvs =>
    obtain ⟨a, ks, e, h1, h2, h3⟩ := h
    exact ⟨a, ks, e, b _ _ (fun z => ne rfl (by rw [e, z])) h1, RpD.keep kp _ _ h2, h3⟩
  | pot p' c =>
    obtain ⟨e, ⟨x, y, z, h1, h2⟩, h3⟩ := h
    exact ⟨e, ⟨x, y, z, b _ _ (fun z => ne rfl (by rw [e, z])) h1, h2⟩, h3⟩
  | v x => exact h
  | o y => exact RpO.keep kp y w h
theorem DI.same (I : DI C ρ σ H) (s : Same H H') : DI C ρ σ H' := by
  refine ⟨I.len, fun i dv e => ?_, I.sep, fun b o n e => ?_, fun b hb => ?_, fun b hb => ?_, C.js _ _ s I.j⟩
  · obtain ⟨w, h1, h2⟩ := I.at_ i dv e
    exact ⟨w, h1, h2.same s⟩
  · rcases I.fr b o n e with h | ⟨ps, ps', h1, h2⟩
    · exact .inl (s _ _ h)
    · exact .inr ⟨ps, ps', h1, s _ _ h2⟩
  · obtain ⟨xs, h⟩ := I.sx b hb
    exact ⟨xs, s _ _ h⟩
  · obtain ⟨xs, h⟩ := I.nx b hb
    exact ⟨xs, s _ _ h⟩
theorem DI.h0 (I : DI C ρ σ H) {p : Addr} (n : H p = none) : C.H0 p = none ∧ ¬ C.S p ∧ ¬ C.N p := by
  have ns : ¬ C.S p := fun z => by
    obtain ⟨xs, h⟩ := I.sx p z
    rw [n] at h
    cases h
  have nn : ¬ C.N p := fun z => by
    obtain ⟨xs, h⟩ := I.nx p z
    rw [n] at h
    cases h
  refine ⟨?_, ns, nn⟩
  cases e : C.H0 p with
  | none => rfl
  | some o =>
    rcases I.fr p o ns e with h | ⟨_, _, _, h⟩ <;> rw [n] at h <;> cases h
/-- a place that is not known is no slot's -/
theorem DI.apart (I : DI C ρ σ H) {p : Addr} (n : H p = none) : ∀ (i : Nat) y, ρ[i]? = some (some y) → y.mt = true → σ[i]? ≠ some (some (.ref p)) := by
  intro i y e hm z
  obtain ⟨w, h1, h2⟩ := I.at_ i y e
  rw [z] at h1
  cases h1
  cases y with
  | d x => cases hm
  | l xs =>
    obtain ⟨a, vs, e, h1, _⟩ := h2
    cases e
    rw [n] at h1
    cases h1
  | m kvs =>
    obtain ⟨a, vs, e, h1, _⟩ := h2
    cases e
    rw [n] at h1
    cases h1
  | pot a c =>
    obtain ⟨e, ⟨_, _, _, h1, _⟩, _⟩ := h2
    cases e
    rw [n] at h1
    cases h1
  | v x => cases hm
  | o y => cases hm
/-- what is one's own, and no slot's, is changed -/
theorem DI.but (I : DI C ρ σ H) {p : Addr} {u : HO} (hp : H p = some u) (ld : LD u) (b : But p H H') (n0 : C.H0 p = none) (ns : ¬ C.S p) (nn : ¬ C.N p) (ap : ∀ (i : Nat) y, ρ[i]? = some (some y) → y.mt = true → σ[i]? ≠ some (some (.ref p))) : DI C ρ σ H' := by
  refine ⟨I.len, fun i dv e => ?_, I.sep, fun c o n e => ?_, fun c hc => ?_, fun c hc => ?_, C.jb _ _ _ _ hp ld nn b I.j⟩
  · obtain ⟨w, h1, h2⟩ := I.at_ i dv e
    exact ⟨w, h1, h2.but hp ld b fun hm z => ap i dv e hm (by rw [h1, z])⟩
  · have cp : c ≠ p := fun z => by rw [z, n0] at e; cases e
    rcases I.fr c o n e with h | ⟨ps, ps', h1, h2⟩
    · exact .inl (b _ _ cp h)
    · exact .inr ⟨ps, ps', h1, b _ _ cp h2⟩
  · obtain ⟨xs, h⟩ := I.sx c hc
    exact ⟨xs, b _ _ (fun z => ns (z ▸ hc)) h⟩
  · obtain ⟨xs, h⟩ := I.nx c hc
    exact ⟨xs, b _ _ (fun z => nn (z ▸ hc)) h⟩
theorem get_set {α : Type} {xs : List α} {i j : Nat} {x y : α} (h : (xs.set i x)[j]? = some y) : (j = i ∧ y = x ∧ i < xs.length) ∨ (j ≠ i ∧ xs[j]? = some y) := by
  by_cases e : i = j
  · subst e
    by_cases l : i < xs.length
    · rw [List.getElem?_set_self l] at h
      cases h
      exact .inl ⟨rfl, rfl, l⟩
    · rw [List.getElem?_eq_none (by simp; omega)] at h
      cases h
  · rw [List.getElem?_set_ne e] at h
    exact .inr ⟨Ne.symm e, h⟩
/-- a slot is filled -/
theorem DI.set (I : DI C ρ σ H) {i : Nat} {dv : DV} {w : V} (h : Dv C H dv w) (ap : dv.mt = true → ∀ (j : Nat) y, j ≠ i → ρ[j]? = some (some y) → y.mt = true → σ[j]? ≠ some (some w)) : DI C (ρ.set i (some dv)) (σ.set i (some w)) H := by
  refine ⟨by rw [List.length_set, List.length_set, I.len], fun j y e => ?_, fun j k x y u ej ek mx my hj hk => ?_, I.fr, I.sx, I.nx, I.j⟩
  · rcases get_set e with ⟨rfl, e2, l⟩ | ⟨ne, e2⟩
    · cases e2
      exact ⟨w, by rw [List.getElem?_set_self (by rw [← I.len]; exact l)], h⟩
    · obtain ⟨u, h1, h2⟩ := I.at_ j y e2
      exact ⟨u, by rw [List.getElem?_set_ne (Ne.symm ne)]; exact h1, h2⟩
  · rcases get_set ej with ⟨rfl, e2, l⟩ | ⟨ne, e2⟩
    · cases e2
      rcases get_set ek with ⟨rfl, e3, l3⟩ | ⟨ne3, e3⟩
      · rfl
      · rw [List.getElem?_set_self (by rw [← I.len]; exact l)] at hj
        cases hj
        rw [List.getElem?_set_ne (Ne.symm ne3)] at hk
        exact absurd hk (ap mx k y ne3 e3 my)
    · rcases get_set ek with ⟨rfl, e3, l3⟩ | ⟨ne3, e3⟩
      · cases e3
        rw [List.getElem?_set_self (by rw [← I.len]; exact l3)] at hk
        cases hk
        rw [List.getElem?_set_ne (Ne.symm ne)] at hj
        exact absurd hj (ap my j x ne e2 mx)
      · rw [List.getElem?_set_ne (Ne.symm ne)] at hj
        rw [List.getElem?_set_ne (Ne.symm ne3)] at hk
        exact I.sep j k x y u e2 e3 mx my hj hk
theorem DI.setD (I : DI C ρ σ H) {i : Nat} {x : PyData} {w : V} (h : Rp H x w) : DI C (ρ.set i (some (.d x))) (σ.set i (some w)) H := I.set (dv := .d x) h fun z => nomatch z
theorem DI.setV (I : DI C ρ σ H) {i : Nat} {w : V} : DI C (ρ.set i (some (.v w))) (σ.set i (some w)) H := I.set (dv := .v w) rfl fun z => nomatch z
/-- .. and is told otherwise -/
theorem DI.tell (I : DI C ρ σ H) {i : Nat} {dv : DV} {w : V} (e : σ[i]? = some (some w)) (h : Dv C H dv w) (ap : dv.mt = true → ∀ (j : Nat) y, j ≠ i → ρ[j]? = some (some y) → y.mt = true → σ[j]? ≠ some (some w)) : DI C (ρ.set i (some dv)) σ H := by
  have J := I.set (i := i) h ap
  have q : σ.set i (some w) = σ := by
    apply List.ext_getElem?
    intro j
    by_cases ej : i = j
    · subst ej
      have l : i < σ.length := by
        by_cases l : i < σ.length
        · exact l
        · rw [List.getElem?_eq_none (by omega)] at e; cases e
      rw [List.getElem?_set_self l, e]
    · rw [List.getElem?_set_ne ej]
  rw [q] at J
  exact J
/-- a slot is forgotten -/
theorem DI.forget (I : DI C ρ σ H) (i : Nat) : DI C (ρ.set i none) σ H := by
  refine ⟨by rw [List.length_set, I.len], fun j y e => ?_, fun j k x y u ej ek mx my hj hk => ?_, I.fr, I.sx, I.nx, I.j⟩
  · rcases get_set e with ⟨_, e2, _⟩ | ⟨_, e2⟩
    · cases e2
    · exact I.at_ j y e2
  · rcases get_set ej with ⟨_, e2, _⟩ | ⟨_, e2⟩
    · cases e2
    · rcases get_set ek with ⟨_, e3, _⟩ | ⟨_, e3⟩
      · cases e3
      · exact I.sep j k x y u e2 e3 mx my hj hk
end
/-! ### readings of expressions -/
class Ref (C : DC) (t : TE) (T : outParam TD) : Prop where
  go : ∀ {σ : L2.St} {H : Hp} {Q : VK} {ρ : DSt} {K : PyData → DSt → Prop}, DI C ρ σ H → T ρ K → (∀ d ρ' w H', K d ρ' → Kp H H' → DI C ρ' σ H' → Rp H' d w → Q w H') → t σ H Q
/-- a new list or dict that no slot holds yet -/
structure New (C : DC) (ρ : DSt) (σ : L2.St) (H : Hp) (dv : DV) (p : Addr) : Prop where
  ow : dv.ow = true
  dv : Dv C H dv (.ref p)
  ap : ∀ (i : Nat) y, ρ[i]? = some (some y) → y.mt = true → σ[i]? ≠ some (some (.ref p))
abbrev TN := DSt → (DV → DSt → Prop) → Prop
class RefN (C : DC) (t : TE) (T : outParam TN) : Prop where
  go : ∀ {σ : L2.St} {H : Hp} {Q : VK} {ρ : DSt} {K : DV → DSt → Prop}, DI C ρ σ H → T ρ K → (∀ dv ρ' p H', K dv ρ' → Kp H H' → DI C ρ' σ H' → New C ρ' σ H' dv p → Q (.ref p) H') → t σ H Q
abbrev TDA := DSt → (List PyData → DSt → Prop) → Prop
class RefA (C : DC) (t : TA) (T : outParam TDA) : Prop where
  go : ∀ {σ : L2.St} {H : Hp} {Q : List V → Hp → Prop} {ρ : DSt} {K : List PyData → DSt → Prop}, DI C ρ σ H → T ρ K → (∀ ds ρ' ws H', K ds ρ' → Kp H H' → DI C ρ' σ H' → RpL H' ds ws → Q ws H') → t σ H Q
abbrev TDT := DSt → (Bool → DSt → Prop) → Prop
class RefT (C : DC) (t : TT) (T : outParam TDT) : Prop where
  go : ∀ {σ : L2.St} {H : Hp} {Q : Bool → Hp → Prop} {ρ : DSt} {K : Bool → DSt → Prop}, DI C ρ σ H → T ρ K → (∀ b ρ' H', K b ρ' → Kp H H' → DI C ρ' σ H' → Q b H') → t σ H Q
structure DEnds where
  nx : DSt → Prop
  rt : PyData → DSt → Prop
  bk : DSt → Prop := fun _ => False
  ct : DSt → Prop := fun _ => False
abbrev TDS := DEnds → DSt → Prop
class RefS (C : DC) (t : TS) (T : outParam TDS) : Prop where
  go : ∀ {D : Ends} {σ : L2.St} {H : Hp} {ρ : DSt} {DD : DEnds}, DI C ρ σ H → T DD ρ → (∀ ρ' σ' H', DD.nx ρ' → Kp H H' → DI C ρ' σ' H' → D.nx σ' H') → (∀ d ρ' w σ' H', DD.rt d ρ' → Kp H H' → DI C ρ' σ' H' → Rp H' d w → D.rt w H') →
    (∀ ρ' σ' H', DD.bk ρ' → Kp H H' → DI C ρ' σ' H' → D.bk σ' H') → (∀ ρ' σ' H', DD.ct ρ' → Kp H H' → DI C ρ' σ' H' → D.ct σ' H') → t D σ H
/-! ### names and written values -/
def DVar (i : Nat) : TD := fun ρ K => match ρ[i]? with
  | some (some (.d x)) => K x ρ
  | _ => False
def DCon (x : PyData) : TD := fun ρ K => K x ρ
section
variable {C : DC}
instance iVar {i : Nat} : Ref C (tVar i) (DVar i) := ⟨fun {σ H Q ρ K} I h k => by
  unfold DVar at h
  split at h
  · rename_i x e
    obtain ⟨w, h1, h2⟩ := I.at_ i _ e
    exact ⟨w, h1, k x ρ w H h (Kp.refl _) I h2⟩
  · exact h.elim⟩
theorem con_go {w : V} {x : PyData} (hx : ∀ H, Rp H x w) {σ : L2.St} {H : Hp} {Q : VK} {ρ : DSt} {K : PyData → DSt → Prop} (I : DI C ρ σ H) (h : DCon x ρ K) (k : ∀ d ρ' w H', K d ρ' → Kp H H' → DI C ρ' σ H' → Rp H' d w → Q w H') : tC w σ H Q :=
  k x ρ w H h (Kp.refl _) I (hx H)
instance iNon : Ref C (tC .non) (DCon .none) := ⟨con_go fun _ => Rp.non⟩
instance iBl {b : Bool} : Ref C (tC (.bl b)) (DCon (.bool b)) := ⟨con_go fun _ => Rp.bl⟩
instance iInt {i : Int} : Ref C (tC (.int i)) (DCon (.int i)) := ⟨con_go fun _ => Rp.int⟩
instance iStr {x : Str} : Ref C (tC (.str x)) (DCon (.str x)) := ⟨con_go fun _ => Rp.str⟩
/-! ### what is locked -/
def DLock (T : TN) : TD := fun ρ K => T ρ fun dv ρ' => match dv with
  | .l xs => K (.list xs) ρ'
  | .m kvs => K (.dict kvs) ρ'
  | _ => False
theorem New.ld {ρ : DSt} {σ : L2.St} {H : Hp} {dv : DV} {p : Addr} (n : New C ρ σ H dv p) : ∃ u, H p = some u ∧ LD u ∧ Mut (some u) ∧ C.H0 p = none ∧ ¬ C.S p ∧ ¬ C.N p := by
  have h1 := n.ow
  have h2 := n.dv
  cases dv with
  | l xs =>
    obtain ⟨a, vs, e, h1, _, h3, h4⟩ := h2
    cases e
    exact ⟨_, h1, True.intro, True.intro, h3, h4⟩
  | m xs =>
    obtain ⟨a, vs, e, h1, _, h3, h4⟩ := h2
    cases e
    exact ⟨_, h1, True.intro, True.intro, h3, h4⟩
  | d x => cases h1
  | pot p c => cases h1
  | v x => cases h1
  | o y => cases h1
instance iLock {t : TE} {T : TN} [r : RefN C t T] : Ref C (tFz t) (DLock T) := ⟨fun {σ H Q ρ K} I h k => by
  refine r.go I h fun dv ρ' p H' q kp I' n => ?_
  obtain ⟨u, hu, ld, mu, n0, ns, nn⟩ := n.ld
  refine ⟨p, u, rfl, hu, mu, fun o => ?_⟩
  have I2 := I'.but hu ld (But.upd (o := .frz o u)) n0 ns nn n.ap
  have kp2 := kp_but hu ld (But.upd (p := p) (H := H') (o := .frz o u))
  have ow := n.ow
  have dv' := n.dv
  cases dv with
  | l xs =>
    obtain ⟨a, vs, e, h1, h2, _⟩ := dv'
    cases e
    rw [hu] at h1
    cases h1
    exact k _ _ _ _ q (kp.trans kp2) I2 (Rp.lst upd_same (RpL.keep kp2 _ _ h2))
  | m xs =>
    obtain ⟨a, vs, e, h1, h2, _⟩ := dv'
    cases e
    rw [hu] at h1
    cases h1
    exact k _ _ _ _ q (kp.trans kp2) I2 (Rp.dct upd_same (RpD.keep kp2 _ _ h2))
  | d x => cases ow
  | pot p c => cases ow
  | v x => cases ow
  | o y => cases ow⟩
/-- a name whose list or dict is locked from now on -/
def DLockV (i : Nat) : TD := fun ρ K => match ρ[i]? with
  | some (some (.l xs)) => K (.list xs) (ρ.set i (some (.d (.list xs))))
  | some (some (.m kvs)) => K (.dict kvs) (ρ.set i (some (.d (.dict kvs))))
  | _ => False
theorem DI.own (I : DI C ρ σ H) {i : Nat} {dv : DV} {w : V} (e : ρ[i]? = some (some dv)) (hw : σ[i]? = some (some w)) (ow : dv.mt = true) : ∀ (j : Nat) y, (ρ.set i none)[j]? = some (some y) → y.mt = true → σ[j]? ≠ some (some w) := by
  intro j y ej my hj
  rcases get_set ej with ⟨_, e2, _⟩ | ⟨ne, e2⟩
  · cases e2
  · exact ne (I.sep j i y dv w e2 e my ow hj hw)
theorem set_set {α : Type} {xs : List α} {i : Nat} {x y : α} : (xs.set i x).set i y = xs.set i y := by
  simp
instance iLockV {i : Nat} : Ref C (tFz (tVar i)) (DLockV i) := ⟨fun {σ H Q ρ K} I h k => by
  unfold DLockV at h
  split at h
  · rename_i xs e
    obtain ⟨w, h1, a, vs, rfl, h2, h3, h4, h5, h6⟩ := I.at_ i _ e
    refine ⟨_, h1, a, _, rfl, h2, True.intro, fun o => ?_⟩
    have kp := kp_but h2 True.intro (But.upd (p := a) (H := H) (o := .frz o (.lst vs)))
    have I2 := (I.forget i).but h2 True.intro (But.upd (o := .frz o (.lst vs))) h4 h5 h6 (DI.own I e h1 rfl)
    have r : Rp (upd H a (.frz o (.lst vs))) (.list xs) (.ref a) := Rp.lst upd_same (RpL.keep kp _ _ h3)
    have I3 := I2.tell (dv := .d (.list xs)) h1 r fun z => nomatch z
    rw [set_set] at I3
    exact k _ _ _ _ h kp I3 r
  · rename_i xs e
    obtain ⟨w, h1, a, vs, rfl, h2, h3, h4, h5, h6⟩ := I.at_ i _ e
    refine ⟨_, h1, a, _, rfl, h2, True.intro, fun o => ?_⟩
    have kp := kp_but h2 True.intro (But.upd (p := a) (H := H) (o := .frz o (.dK vs)))
    have I2 := (I.forget i).but h2 True.intro (But.upd (o := .frz o (.dK vs))) h4 h5 h6 (DI.own I e h1 rfl)
    have r : Rp (upd H a (.frz o (.dK vs))) (.dict xs) (.ref a) := Rp.dct upd_same (RpD.keep kp _ _ h3)
    have I3 := I2.tell (dv := .d (.dict xs)) h1 r fun z => nomatch z
    rw [set_set] at I3
    exact k _ _ _ _ h kp I3 r
  · exact h.elim⟩
end
end Dw
end
section
set_option Elab.async false
set_option linter.all false
set_option maxRecDepth 100000
set_option maxHeartbeats 4000000
/-! Tg, part S: Dw: operations by data, arguments, tests, statements. -/
namespace Dw
open PySem PySem.Spec PyProof.Rows L2 Tg LamX
/-! ### operations by data -/
abbrev D1 := PyData → (PyData → Prop) → Prop
abbrev D2 := PyData → PyData → (PyData → Prop) → Prop
abbrev DL := List PyData → (PyData → Prop) → Prop
def rD (R : D2) : R2 := fun x y H Q => ∃ d e K, Rp H d x ∧ Rp H e y ∧ R d e K ∧ ∀ z w H', K z → Same H H' → Rp H' z w → Q w H'
def uD (R : D1) : V → Hp → VK → Prop := fun x H Q => ∃ d K, Rp H d x ∧ R d K ∧ ∀ z w H', K z → Same H H' → Rp H' z w → Q w H'
def cD (R : DL) : List V → Hp → VK → Prop := fun xs H Q => ∃ ds K, RpL H ds xs ∧ R ds K ∧ ∀ z w H', K z → Same H H' → Rp H' z w → Q w H'
def mD (R : PyData → DL) : V → List V → Hp → VK → Prop := fun x xs H Q => ∃ d ds K, Rp H d x ∧ RpL H ds xs ∧ R d ds K ∧ ∀ z w H', K z → Same H H' → Rp H' z w → Q w H'
def sD (R : PyData → Option Int → Option Int → (PyData → Prop) → Prop) : V → Option Int → Option Int → Hp → VK → Prop := fun x lo hi H Q => ∃ d K, Rp H d x ∧ R d lo hi K ∧ ∀ z w H', K z → Same H H' → Rp H' z w → Q w H'
/-- .. that make a new list -/
def NewL (H : Hp) (xs : List PyData) (p : Addr) (H' : Hp) : Prop := ∃ vs, H p = none ∧ H' = upd H p (.lst vs) ∧ RpL H xs vs
def NewM (H : Hp) (xs : List (PyData × PyData)) (p : Addr) (H' : Hp) : Prop := ∃ vs, H p = none ∧ H' = upd H p (.dK vs) ∧ RpD H xs vs
abbrev L1 := PyData → (List PyData → Prop) → Prop
abbrev LL2 := PyData → PyData → (List PyData → Prop) → Prop
abbrev LL := List PyData → (List PyData → Prop) → Prop
def rN (R : LL2) : R2 := fun x y H Q => ∃ d e K, Rp H d x ∧ Rp H e y ∧ R d e K ∧ ∀ z p H', K z → NewL H z p H' → Q (.ref p) H'
def cN (R : LL) : List V → Hp → VK → Prop := fun xs H Q => ∃ ds K, RpL H ds xs ∧ R ds K ∧ ∀ z p H', K z → NewL H z p H' → Q (.ref p) H'
def mN (R : PyData → LL) : V → List V → Hp → VK → Prop := fun x xs H Q => ∃ d ds K, Rp H d x ∧ RpL H ds xs ∧ R d ds K ∧ ∀ z p H', K z → NewL H z p H' → Q (.ref p) H'
def sN (R : PyData → Option Int → Option Int → (List PyData → Prop) → Prop) : V → Option Int → Option Int → Hp → VK → Prop := fun x lo hi H Q => ∃ d K, Rp H d x ∧ R d lo hi K ∧ ∀ z p H', K z → NewL H z p H' → Q (.ref p) H'
section
variable {X : Cx}
theorem OpR.of {f : Value → Value → Sem Value} {r r' : R2} (h : OpR X f r) (i : ∀ x y H Q, r' x y H Q → r x y H Q) : OpR X f r' := fun pins s σ H x y v u Q I rx ry q => h pins s σ H x y v u Q I rx ry (i x y H Q q)
theorem UnR.of {f : Value → Sem Value} {r r' : V → Hp → VK → Prop} (h : UnR X f r) (i : ∀ x H Q, r' x H Q → r x H Q) : UnR X f r' := fun pins s σ H x v Q I rx q => h pins s σ H x v Q I rx (i x H Q q)
theorem IxR.of {r r' : R2} (h : IxR X r) (i : ∀ x y H Q, r' x y H Q → r x y H Q) : IxR X r' := fun a b pins s σ H x y v u Q I rx ry q => h a b pins s σ H x y v u Q I rx ry (i x y H Q q)
theorem CallR.of {f : Value} {r r' : List V → Hp → VK → Prop} (h : CallR X f r) (i : ∀ x H Q, r' x H Q → r x H Q) : CallR X f r' := fun pins s σ H x v Q I rx q => h pins s σ H x v Q I rx (i x H Q q)
theorem MtR.of {f : String} {r r' : V → List V → Hp → VK → Prop} (h : MtR X f r) (i : ∀ x y H Q, r' x y H Q → r x y H Q) : MtR X f r' := fun pins s σ H x xs v us Q I rx rxs q => h pins s σ H x xs v us Q I rx rxs (i x xs H Q q)
theorem SlR.of {r r' : V → Option Int → Option Int → Hp → VK → Prop} (h : SlR X r) (i : ∀ x a b H Q, r' x a b H Q → r x a b H Q) : SlR X r' := fun pins s σ H x v vl vu lo hi sl Q I rx hs pl pu q => h pins s σ H x v vl vu lo hi sl Q I rx hs pl pu (i x lo hi H Q q)
end
/-! ### instances -/
def DCons (T : TD) (TA : TDA) : TDA := fun ρ K => T ρ fun d ρ1 => TA ρ1 fun ds ρ2 => K (d :: ds) ρ2
def DNil : TDA := fun ρ K => K [] ρ
def DOp (R : D2) (T U : TD) : TD := fun ρ K => T ρ fun d ρ1 => U ρ1 fun e ρ2 => R d e fun z => K z ρ2
def DOpN (R : LL2) (T U : TD) : TN := fun ρ K => T ρ fun d ρ1 => U ρ1 fun e ρ2 => R d e fun z => K (.l z) ρ2
def DUn (R : D1) (T : TD) : TD := fun ρ K => T ρ fun d ρ1 => R d fun z => K z ρ1
def DTup (TA : TDA) : TD := fun ρ K => TA ρ fun ds ρ1 => ds.length ≤ 1000 ∧ K (.tuple ds) ρ1
def DLst (TA : TDA) : TN := fun ρ K => TA ρ fun ds ρ1 => ds.length ≤ 1000 ∧ K (.l ds) ρ1
def DCB (R : DL) (TA : TDA) : TD := fun ρ K => TA ρ fun ds ρ1 => R ds fun z => K z ρ1
def DCBN (R : LL) (TA : TDA) : TN := fun ρ K => TA ρ fun ds ρ1 => R ds fun z => K (.l z) ρ1
def DMt (R : PyData → DL) (T : TD) (TA : TDA) : TD := fun ρ K => T ρ fun d ρ1 => TA ρ1 fun ds ρ2 => R d ds fun z => K z ρ2
def DMtN (R : PyData → LL) (T : TD) (TA : TDA) : TN := fun ρ K => T ρ fun d ρ1 => TA ρ1 fun ds ρ2 => R d ds fun z => K (.l z) ρ2
section
variable {C : DC}
theorem DI.newL {ρ : DSt} {σ : L2.St} {H H' : Hp} {xs : List PyData} {p : Addr} (I : DI C ρ σ H) (n : NewL H xs p H') : DI C ρ σ H' ∧ Kp H H' ∧ New C ρ σ H' (.l xs) p := by
  obtain ⟨vs, np, rfl, r⟩ := n
  obtain ⟨h0, ns, nn⟩ := I.h0 np
  exact ⟨I.same (same_new np), Kp.new np, rfl, ⟨p, vs, rfl, upd_same, r.same (same_new np), h0, ns, nn⟩, I.apart np⟩
theorem DI.newM {ρ : DSt} {σ : L2.St} {H H' : Hp} {xs : List (PyData × PyData)} {p : Addr} (I : DI C ρ σ H) (n : NewM H xs p H') : DI C ρ σ H' ∧ Kp H H' ∧ New C ρ σ H' (.m xs) p := by
  obtain ⟨vs, np, rfl, r⟩ := n
  obtain ⟨h0, ns, nn⟩ := I.h0 np
  exact ⟨I.same (same_new np), Kp.new np, rfl, ⟨p, vs, rfl, upd_same, RpD.keep (Kp.new np) _ _ r, h0, ns, nn⟩, I.apart np⟩
instance iNil : RefA C tNil DNil := ⟨fun {σ H Q ρ K} I h k => k [] ρ [] H h (Kp.refl _) I RpL.nil⟩
instance iCons {t : TE} {T : TD} {ta : TA} {TA : TDA} [r : Ref C t T] [ra : RefA C ta TA] : RefA C (tCons t ta) (DCons T TA) := ⟨fun {σ H Q ρ K} I h k =>
  r.go I h fun d ρ1 w H1 q1 k1 I1 r1 => ra.go I1 q1 fun ds ρ2 ws H2 q2 k2 I2 r2 => k _ _ _ _ q2 (k1.trans k2) I2 (RpL.cons (r1.keep k2) r2)⟩
instance iOp {R : D2} {t u : TE} {T U : TD} [r : Ref C t T] [s : Ref C u U] : Ref C (tOp (rD R) t u) (DOp R T U) := ⟨fun {σ H Q ρ K} I h k =>
  r.go I h fun d ρ1 w H1 q1 k1 I1 r1 => s.go I1 q1 fun e ρ2 w2 H2 q2 k2 I2 r2 => ⟨d, e, _, r1.keep k2, r2, q2, fun z w3 H3 q3 s3 r3 => k _ _ _ _ q3 ((k1.trans k2).trans (Kp.same s3)) (I2.same s3) r3⟩⟩
instance iOpN {R : LL2} {t u : TE} {T U : TD} [r : Ref C t T] [s : Ref C u U] : RefN C (tOp (rN R) t u) (DOpN R T U) := ⟨fun {σ H Q ρ K} I h k =>
  r.go I h fun d ρ1 w H1 q1 k1 I1 r1 => s.go I1 q1 fun e ρ2 w2 H2 q2 k2 I2 r2 => ⟨d, e, _, r1.keep k2, r2, q2, fun z p H3 q3 n3 => by
    obtain ⟨I3, k3, N3⟩ := I2.newL n3
    exact k _ _ _ _ q3 ((k1.trans k2).trans k3) I3 N3⟩⟩
instance iUn {R : D1} {t : TE} {T : TD} [r : Ref C t T] : Ref C (tUn (uD R) t) (DUn R T) := ⟨fun {σ H Q ρ K} I h k =>
  r.go I h fun d ρ1 w H1 q1 k1 I1 r1 => ⟨d, _, r1, q1, fun z w3 H3 q3 s3 r3 => k _ _ _ _ q3 (k1.trans (Kp.same s3)) (I1.same s3) r3⟩⟩
theorem rpL_len {H : Hp} : ∀ {ds : List PyData} {xs : List V}, RpL H ds xs → ds.length = xs.length
  | [], xs, h => by
    simp only [RpL] at h
    rw [h]
    rfl
  | d :: ds, xs, h => by
    simp only [RpL] at h
    obtain ⟨x, r, rfl, _, h2⟩ := h
    rw [List.length_cons, List.length_cons, rpL_len h2]
instance iTup {ta : TA} {TA : TDA} [ra : RefA C ta TA] : Ref C (tTup ta) (DTup TA) := ⟨fun {σ H Q ρ K} I h k =>
  ra.go I h fun ds ρ1 ws H1 q1 k1 I1 r1 => ⟨len_ok (by rw [← rpL_len r1]; exact q1.1), fun p np => k _ _ _ _ q1.2 (k1.trans (Kp.new np)) (I1.same (same_new np)) (Rp.tup upd_same (r1.same (same_new np)))⟩⟩
instance iLst {ta : TA} {TA : TDA} [ra : RefA C ta TA] : RefN C (tLst ta) (DLst TA) := ⟨fun {σ H Q ρ K} I h k =>
  ra.go I h fun ds ρ1 ws H1 q1 k1 I1 r1 => ⟨len_ok (by rw [← rpL_len r1]; exact q1.1), fun p np => by
    obtain ⟨I3, k3, N3⟩ := I1.newL ⟨ws, np, rfl, r1⟩
    exact k _ _ _ _ q1.2 (k1.trans k3) I3 N3⟩⟩
instance iDNew : RefN C tDNewK (fun ρ K => K (.m []) ρ) := ⟨fun {σ H Q ρ K} I h k p np => by
    obtain ⟨I3, k3, N3⟩ := I.newM ⟨[], np, rfl, RpD.nil⟩
    exact k _ _ _ _ h k3 I3 N3⟩
instance iCB {R : DL} {ta : TA} {TA : TDA} [ra : RefA C ta TA] : Ref C (tCB (cD R) ta) (DCB R TA) := ⟨fun {σ H Q ρ K} I h k =>
  ra.go I h fun ds ρ1 ws H1 q1 k1 I1 r1 => ⟨ds, _, r1, q1, fun z w3 H3 q3 s3 r3 => k _ _ _ _ q3 (k1.trans (Kp.same s3)) (I1.same s3) r3⟩⟩
instance iCBN {R : LL} {ta : TA} {TA : TDA} [ra : RefA C ta TA] : RefN C (tCB (cN R) ta) (DCBN R TA) := ⟨fun {σ H Q ρ K} I h k =>
  ra.go I h fun ds ρ1 ws H1 q1 k1 I1 r1 => ⟨ds, _, r1, q1, fun z p H3 q3 n3 => by
    obtain ⟨I3, k3, N3⟩ := I1.newL n3
    exact k _ _ _ _ q3 (k1.trans k3) I3 N3⟩⟩
/-- x.name(..) of a text -/
instance iMtS {Kf : PySem.W.Frag} {R : PyData → DL} {t : TE} {T : TD} {ta : TA} {TA : TDA} [r : Ref C t T] [ra : RefA C ta TA] : Ref C (tBM Kf "str" (mD R) t ta) (fun ρ K => DMt R (fun ρ K => T ρ fun d ρ' => (∃ x, d = .str x) ∧ K d ρ') TA ρ K) := ⟨fun {σ H Q ρ K} I h k =>
  r.go I h fun d ρ1 w H1 q1 k1 I1 r1 => ⟨by
    obtain ⟨⟨x, rfl⟩, _⟩ := q1
    simp only [Rp] at r1
    subst r1
    exact rfl, ra.go I1 q1.2 fun ds ρ2 ws H2 q2 k2 I2 r2 => ⟨d, ds, _, r1.keep k2, r2, q2, fun z w3 H3 q3 s3 r3 => k _ _ _ _ q3 ((k1.trans k2).trans (Kp.same s3)) (I2.same s3) r3⟩⟩⟩
instance iMtSN {Kf : PySem.W.Frag} {R : PyData → LL} {t : TE} {T : TD} {ta : TA} {TA : TDA} [r : Ref C t T] [ra : RefA C ta TA] : RefN C (tBM Kf "str" (mN R) t ta) (fun ρ K => DMtN R (fun ρ K => T ρ fun d ρ' => (∃ x, d = .str x) ∧ K d ρ') TA ρ K) := ⟨fun {σ H Q ρ K} I h k =>
  r.go I h fun d ρ1 w H1 q1 k1 I1 r1 => ⟨by
    obtain ⟨⟨x, rfl⟩, _⟩ := q1
    simp only [Rp] at r1
    subst r1
    exact rfl, ra.go I1 q1.2 fun ds ρ2 ws H2 q2 k2 I2 r2 => ⟨d, ds, _, r1.keep k2, r2, q2, fun z p H3 q3 n3 => by
      obtain ⟨I3, k3, N3⟩ := I2.newL n3
      exact k _ _ _ _ q3 ((k1.trans k2).trans k3) I3 N3⟩⟩⟩
end
/-! ### tests, bools as values -/
def isB (d : PyData) (k : Bool → Prop) : Prop := match d with
  | .bool b => k b
  | _ => False
theorem isB_go {H : Hp} {d : PyData} {w : V} {k : Bool → Prop} (h : isB d k) (r : Rp H d w) : ∃ b, w = .bl b ∧ d = .bool b ∧ k b := by
  cases d with
  | bool b =>
    simp only [Rp] at r
    exact ⟨b, r, rfl, h⟩
  | _ => exact h.elim
def DB (T : TD) : TDT := fun ρ K => T ρ fun d ρ1 => isB d fun b => K b ρ1
def DNot (T : TDT) : TDT := fun ρ K => T ρ fun b ρ1 => K (!b) ρ1
def DAnd (T U : TDT) : TDT := fun ρ K => T ρ fun b ρ1 => if b = true then U ρ1 K else K false ρ1
def DOr (T U : TDT) : TDT := fun ρ K => T ρ fun b ρ1 => if b = true then K true ρ1 else U ρ1 K
def DAndV (T U : TD) : TD := fun ρ K => T ρ fun d ρ1 => isB d fun b => if b = true then U ρ1 K else K (.bool false) ρ1
def DOrV (T U : TD) : TD := fun ρ K => T ρ fun d ρ1 => isB d fun b => if b = true then K (.bool true) ρ1 else U ρ1 K
def DNotV (T : TD) : TD := fun ρ K => T ρ fun d ρ1 => isB d fun b => K (.bool (!b)) ρ1
def DIf (T : TDT) (U V : TD) : TD := fun ρ K => T ρ fun b ρ1 => if b = true then U ρ1 K else V ρ1 K
def DChain (R R' : D2) (T U V : TD) : TD := fun ρ K => T ρ fun d ρ1 => U ρ1 fun e ρ2 => R d e fun z => isB z fun b => if b = true then V ρ2 fun f ρ3 => R' e f fun y => K y ρ3 else K (.bool false) ρ2
section
variable {C : DC}
instance iB {t : TE} {T : TD} [r : Ref C t T] : RefT C (tB t) (DB T) := ⟨fun {σ H Q ρ K} I h k =>
  r.go I h fun d ρ1 w H1 q1 k1 I1 r1 => by
    obtain ⟨b, rfl, rfl, q⟩ := isB_go q1 r1
    exact ⟨b, rfl, k _ _ _ q k1 I1⟩⟩
instance iTest {t : TE} {T : TD} [r : Ref C t T] : RefT C (tTest t) (DB T) := ⟨fun {σ H Q ρ K} I h k =>
  r.go I h fun d ρ1 w H1 q1 k1 I1 r1 => by
    obtain ⟨b, rfl, rfl, q⟩ := isB_go q1 r1
    exact ⟨b, rfl, k _ _ _ q k1 I1⟩⟩
instance iNot {t : TT} {T : TDT} [r : RefT C t T] : RefT C (tNot t) (DNot T) := ⟨fun {σ H Q ρ K} I h k =>
  r.go I h fun b ρ1 H1 q1 k1 I1 => k _ _ _ q1 k1 I1⟩
instance iAnd {t u : TT} {T U : TDT} [r : RefT C t T] [s : RefT C u U] : RefT C (tAnd t u) (DAnd T U) := ⟨fun {σ H Q ρ K} I h k =>
  r.go I h fun b ρ1 H1 q1 k1 I1 => by
    cases b with
    | true => exact s.go I1 q1 fun c ρ2 H2 q2 k2 I2 => k _ _ _ q2 (k1.trans k2) I2
    | false => exact k _ _ _ q1 k1 I1⟩
instance iOr {t u : TT} {T U : TDT} [r : RefT C t T] [s : RefT C u U] : RefT C (tOr t u) (DOr T U) := ⟨fun {σ H Q ρ K} I h k =>
  r.go I h fun b ρ1 H1 q1 k1 I1 => by
    cases b with
    | false => exact s.go I1 q1 fun c ρ2 H2 q2 k2 I2 => k _ _ _ q2 (k1.trans k2) I2
    | true => exact k _ _ _ q1 k1 I1⟩
instance iAndV {t u : TE} {T U : TD} [r : Ref C t T] [s : Ref C u U] : Ref C (tAndV t u) (DAndV T U) := ⟨fun {σ H Q ρ K} I h k =>
  r.go I h fun d ρ1 w H1 q1 k1 I1 r1 => by
    obtain ⟨b, rfl, rfl, q⟩ := isB_go q1 r1
    refine ⟨b, rfl, ?_⟩
    cases b with
    | true => exact s.go I1 q fun c ρ2 w2 H2 q2 k2 I2 r2 => k _ _ _ _ q2 (k1.trans k2) I2 r2
    | false => exact k _ _ _ _ q k1 I1 Rp.bl⟩
instance iOrV {t u : TE} {T U : TD} [r : Ref C t T] [s : Ref C u U] : Ref C (tOrV t u) (DOrV T U) := ⟨fun {σ H Q ρ K} I h k =>
  r.go I h fun d ρ1 w H1 q1 k1 I1 r1 => by
    obtain ⟨b, rfl, rfl, q⟩ := isB_go q1 r1
    refine ⟨b, rfl, ?_⟩
    cases b with
    | false => exact s.go I1 q fun c ρ2 w2 H2 q2 k2 I2 r2 => k _ _ _ _ q2 (k1.trans k2) I2 r2
    | true => exact k _ _ _ _ q k1 I1 Rp.bl⟩
instance iNotV {t : TE} {T : TD} [r : Ref C t T] : Ref C (tNotV t) (DNotV T) := ⟨fun {σ H Q ρ K} I h k =>
  r.go I h fun d ρ1 w H1 q1 k1 I1 r1 => by
    obtain ⟨b, rfl, rfl, q⟩ := isB_go q1 r1
    exact ⟨b, rfl, k _ _ _ _ q k1 I1 Rp.bl⟩⟩
instance iIf {t : TT} {u v : TE} {T : TDT} {U V : TD} [r : RefT C t T] [s : Ref C u U] [s' : Ref C v V] : Ref C (tIf t u v) (DIf T U V) := ⟨fun {σ H Q ρ K} I h k =>
  r.go I h fun b ρ1 H1 q1 k1 I1 => by
    cases b with
    | true => exact s.go I1 q1 fun c ρ2 w2 H2 q2 k2 I2 r2 => k _ _ _ _ q2 (k1.trans k2) I2 r2
    | false => exact s'.go I1 q1 fun c ρ2 w2 H2 q2 k2 I2 r2 => k _ _ _ _ q2 (k1.trans k2) I2 r2⟩
instance iChain {R R' : D2} {t u v : TE} {T U V : TD} [r : Ref C t T] [s : Ref C u U] [s' : Ref C v V] : Ref C (tChain (rD R) (rD R') t u v) (DChain R R' T U V) := ⟨fun {σ H Q ρ K} I h k =>
  r.go I h fun d ρ1 w H1 q1 k1 I1 r1 => s.go I1 q1 fun e ρ2 w2 H2 q2 k2 I2 r2 => ⟨d, e, _, r1.keep k2, r2, q2, fun z w3 H3 q3 s3 r3 => by
    obtain ⟨b, rfl, rfl, q⟩ := isB_go q3 r3
    refine ⟨b, rfl, ?_⟩
    have I3 := I2.same s3
    have k3 := (k1.trans k2).trans (Kp.same s3)
    cases b with
    | true => exact s'.go I3 q fun f ρ4 w4 H4 q4 k4 I4 r4 => ⟨e, f, _, (r2.same s3).keep k4, r4, q4, fun y w5 H5 q5 s5 r5 => k _ _ _ _ q5 ((k3.trans k4).trans (Kp.same s5)) (I4.same s5) r5⟩
    | false => exact k _ _ _ _ q k3 I3 Rp.bl⟩⟩
end
/-! ### statements -/
def DNext : TDS := fun DD ρ => DD.nx ρ
def DSeq (T U : TDS) : TDS := fun DD ρ => T { DD with nx := fun ρ' => U DD ρ' } ρ
def DIfS (T : TDT) (U V : TDS) : TDS := fun DD ρ => T ρ fun b ρ1 => if b = true then U DD ρ1 else V DD ρ1
def DRet (T : TD) : TDS := fun DD ρ => T ρ DD.rt
def DDrop (T : TD) : TDS := fun DD ρ => T ρ fun _ ρ1 => DD.nx ρ1
def DSet (i : Nat) (T : TD) : TDS := fun DD ρ => T ρ fun d ρ1 => DD.nx (ρ1.set i (some (.d d)))
def DSetN (i : Nat) (T : TN) : TDS := fun DD ρ => T ρ fun d ρ1 => DD.nx (ρ1.set i (some d))
def DWhile (T : TDT) (U : TDS) : TDS := fun DD ρ => ∃ W : Nat → DSt → Prop, (∃ n, W n ρ) ∧ ∀ n ρ, W n ρ → T ρ fun b ρ1 => if b = true then U { nx := fun ρ' => ∃ m, m < n ∧ W m ρ', rt := DD.rt, bk := DD.nx, ct := fun ρ' => ∃ m, m < n ∧ W m ρ' } ρ1 else DD.nx ρ1
section
variable {C : DC}
instance iNext : RefS C tNext DNext := ⟨fun {D σ H ρ DD} I h n _ _ _ => n _ _ _ h (Kp.refl _) I⟩
instance iSeq {t u : TS} {T U : TDS} [r : RefS C t T] [s : RefS C u U] : RefS C (tSeq t u) (DSeq T U) := ⟨fun {D σ H ρ DD} I h n rt bk ct =>
  r.go (D := { D with nx := u D }) I h (fun ρ1 σ1 H1 q1 k1 I1 => s.go I1 q1 (fun ρ2 σ2 H2 q2 k2 I2 => n _ _ _ q2 (k1.trans k2) I2) (fun d ρ2 w σ2 H2 q2 k2 I2 r2 => rt d _ _ _ _ q2 (k1.trans k2) I2 r2) (fun ρ2 σ2 H2 q2 k2 I2 => bk _ _ _ q2 (k1.trans k2) I2) fun ρ2 σ2 H2 q2 k2 I2 => ct _ _ _ q2 (k1.trans k2) I2) rt bk ct⟩
instance iIfS {t : TT} {u v : TS} {T : TDT} {U V : TDS} [r : RefT C t T] [s : RefS C u U] [s' : RefS C v V] : RefS C (tIfS t u v) (DIfS T U V) := ⟨fun {D σ H ρ DD} I h n rt bk ct =>
  r.go I h fun b ρ1 H1 q1 k1 I1 => by
    cases b with
    | true => exact s.go I1 q1 (fun ρ2 σ2 H2 q2 k2 I2 => n _ _ _ q2 (k1.trans k2) I2) (fun d ρ2 w σ2 H2 q2 k2 I2 r2 => rt d _ _ _ _ q2 (k1.trans k2) I2 r2) (fun ρ2 σ2 H2 q2 k2 I2 => bk _ _ _ q2 (k1.trans k2) I2) fun ρ2 σ2 H2 q2 k2 I2 => ct _ _ _ q2 (k1.trans k2) I2
    | false => exact s'.go I1 q1 (fun ρ2 σ2 H2 q2 k2 I2 => n _ _ _ q2 (k1.trans k2) I2) (fun d ρ2 w σ2 H2 q2 k2 I2 r2 => rt d _ _ _ _ q2 (k1.trans k2) I2 r2) (fun ρ2 σ2 H2 q2 k2 I2 => bk _ _ _ q2 (k1.trans k2) I2) fun ρ2 σ2 H2 q2 k2 I2 => ct _ _ _ q2 (k1.trans k2) I2⟩
instance iRet {t : TE} {T : TD} [r : Ref C t T] : RefS C (tRet t) (DRet T) := ⟨fun {D σ H ρ DD} I h n rt bk ct => r.go I h fun d ρ1 w H1 q1 k1 I1 r1 => rt d _ _ _ _ q1 k1 I1 r1⟩
instance iRetN : RefS C tRetN (fun DD ρ => DD.rt .none ρ) := ⟨fun {D σ H ρ DD} I h n rt bk ct => rt .none _ .non σ H h (Kp.refl _) I Rp.non⟩
instance iDrop {t : TE} {T : TD} [r : Ref C t T] : RefS C (tDrop t) (DDrop T) := ⟨fun {D σ H ρ DD} I h n rt bk ct => r.go I h fun d ρ1 w H1 q1 k1 I1 r1 => n _ _ _ q1 k1 I1⟩
instance iBrk : RefS C tBreak (fun DD ρ => DD.bk ρ) := ⟨fun {D σ H ρ DD} I h n rt bk ct => bk _ _ _ h (Kp.refl _) I⟩
instance iCnt : RefS C tCont (fun DD ρ => DD.ct ρ) := ⟨fun {D σ H ρ DD} I h n rt bk ct => ct _ _ _ h (Kp.refl _) I⟩
instance iSet {i : Nat} {t : TE} {T : TD} [r : Ref C t T] : RefS C (tAsg t (gName i)) (DSet i T) := ⟨fun {D σ H ρ DD} I h n rt bk ct => r.go I h fun d ρ1 w H1 q1 k1 I1 r1 => n _ _ _ q1 k1 (I1.setD r1)⟩
theorem New.mt {ρ : DSt} {σ : L2.St} {H : Hp} {dv : DV} {p : Addr} (n : New C ρ σ H dv p) : dv.mt = true := by
  have h := n.ow
  cases dv <;> first | rfl | cases h
instance iSetN {i : Nat} {t : TE} {T : TN} [r : RefN C t T] : RefS C (tAsg t (gName i)) (DSetN i T) := ⟨fun {D σ H ρ DD} I h n rt bk ct => r.go I h fun dv ρ1 p H1 q1 k1 I1 N1 => n _ _ _ q1 k1 (I1.set N1.dv fun _ j y _ e m => N1.ap j y e m)⟩
instance iWhile {t : TT} {u : TS} {T : TDT} {U : TDS} [r : RefT C t T] [s : RefS C u U] : RefS C (tWhile t u) (DWhile T U) := ⟨fun {D σ H ρ DD} I h n rt bk ct => by
  obtain ⟨W, ⟨m0, w0⟩, hW⟩ := h
  refine ⟨fun m σ' H' => ∃ ρ', DI C ρ' σ' H' ∧ Kp H H' ∧ W m ρ', ⟨m0, ρ, I, Kp.refl _, w0⟩, ?_⟩
  rintro m σ1 H1 ⟨ρ1, I1, k1, w1⟩
  refine r.go I1 (hW m ρ1 w1) fun b ρ2 H2 q2 k2 I2 => ?_
  cases b with
  | true => exact ⟨fun σ3 H3 => ∃ m' ρ3, m' < m ∧ DI C ρ3 σ3 H3 ∧ Kp H H3 ∧ W m' ρ3, fun σ3 H3 ⟨m', ρ3, l, i, k, w⟩ => ⟨m', l, ρ3, i, k, w⟩, s.go I2 q2 (fun ρ3 σ3 H3 ⟨m', l, w3⟩ k3 I3 => ⟨m', ρ3, l, I3, (k1.trans k2).trans k3, w3⟩) (fun d ρ3 w σ3 H3 q3 k3 I3 r3 => rt d _ _ _ _ q3 ((k1.trans k2).trans k3) I3 r3) (fun ρ3 σ3 H3 q3 k3 I3 => n _ _ _ q3 ((k1.trans k2).trans k3) I3) fun ρ3 σ3 H3 ⟨m', l, w3⟩ k3 I3 => ⟨m', ρ3, l, I3, (k1.trans k2).trans k3, w3⟩⟩
  -- ρ3, I3, (k1.trans k2).trans k3, w3⟩) (fun d ρ3 w σ3 H3 q3 k3 I3 r3 => rt d _ _ _ _ q3 ((k1.trans k2).trans k3) I3 r3) (fun ρ3 σ3 H3 q3 k3 I3 => n _ _ _ q3 ((k1.trans k2).trans k3) I3) fun ρ3 σ3 H3 ⟨m', l, w3⟩ k3 I3 => ⟨m', l, ρ3, I3, (k1.trans k2).trans k3, w3⟩
  | false => exact n _ _ _ q2 (k1.trans k2) I2⟩
end
end Dw
end
section
set_option Elab.async false
set_option linter.all false
set_option maxRecDepth 100000
set_option maxHeartbeats 4000000
/-! Tg, part T: Dw: targets, loops, comprehensions, own lists. -/
namespace Dw
open PySem PySem.Spec PyProof.Rows L2 Tg LamX
/-! ### targets -/
abbrev TDG := PyData → DSt → (DSt → Prop) → Prop
abbrev TDGs := List PyData → DSt → (DSt → Prop) → Prop
/-- σ' is σ but for the slots ts -/
def Tch (ts : List Nat) (σ σ' : L2.St) : Prop := σ'.length = σ.length ∧ ∀ i, i ∉ ts → σ'[i]? = σ[i]?
theorem Tch.refl {ts : List Nat} (σ : L2.St) : Tch ts σ σ := ⟨rfl, fun _ _ => rfl⟩
theorem Tch.trans {ts us : List Nat} {σ σ1 σ2 : L2.St} (a : Tch ts σ σ1) (b : Tch us σ1 σ2) : Tch (ts ++ us) σ σ2 := ⟨b.1.trans a.1, fun i h => by
  rw [List.mem_append, not_or] at h
  rw [b.2 i h.2, a.2 i h.1]⟩
class RefG (C : DC) (g : TG) (G : outParam TDG) (ts : outParam (List Nat)) : Prop where
  go : ∀ {σ : L2.St} {H : Hp} {Q : L2.St → Hp → Prop} {ρ : DSt} {K : DSt → Prop} {d : PyData} {w : V}, DI C ρ σ H → Rp H d w → G d ρ K → (∀ ρ' σ' H', K ρ' → Kp H H' → DI C ρ' σ' H' → Tch ts σ σ' → Q σ' H') → g w σ H Q
class RefGs (C : DC) (g : TGs) (G : outParam TDGs) (ts : outParam (List Nat)) : Prop where
  go : ∀ {σ : L2.St} {H : Hp} {Q : L2.St → Hp → Prop} {ρ : DSt} {K : DSt → Prop} {ds : List PyData} {ws : List V}, DI C ρ σ H → RpL H ds ws → G ds ρ K → (∀ ρ' σ' H', K ρ' → Kp H H' → DI C ρ' σ' H' → Tch ts σ σ' → Q σ' H') → g ws σ H Q
def GName (i : Nat) : TDG := fun d ρ K => K (ρ.set i (some (.d d)))
def GNil : TDGs := fun ds ρ K => ds = [] ∧ K ρ
def GCons (G : TDG) (Gs : TDGs) : TDGs := fun ds ρ K => match ds with
  | d :: r => G d ρ fun ρ' => Gs r ρ' K
  | [] => False
def GTup (n : Nat) (Gs : TDGs) : TDG := fun d ρ K => match d with
  | .tuple ds => ds.length = n ∧ Gs ds ρ K
  | _ => False
section
variable {C : DC}
instance igName {i : Nat} : RefG C (gName i) (GName i) [i] := ⟨fun {σ H Q ρ K d w} I r h k => k _ _ _ h (Kp.refl _) (I.setD r) ⟨by rw [List.length_set], fun j hj => List.getElem?_set_ne (fun e => hj (by simp [e]))⟩⟩
instance igNil : RefGs C gNil GNil [] := ⟨fun {σ H Q ρ K ds ws} I r h k => by
  obtain ⟨rfl, h⟩ := h
  simp only [RpL] at r
  exact ⟨r, k _ _ _ h (Kp.refl _) I (Tch.refl _)⟩⟩
instance igCons {g : TG} {gs : TGs} {G : TDG} {Gs : TDGs} {ts us : List Nat} [r : RefG C g G ts] [s : RefGs C gs Gs us] : RefGs C (gCons g gs) (GCons G Gs) (ts ++ us) := ⟨fun {σ H Q ρ K ds ws} I rl h k => by
  cases ds with
  | nil => exact h.elim
  | cons d ds =>
    simp only [RpL] at rl
    obtain ⟨x, xs, rfl, r1, r2⟩ := rl
    exact ⟨x, xs, rfl, r.go I r1 h fun ρ1 σ1 H1 q1 k1 I1 t1 => s.go I1 (RpL.keep k1 _ _ r2) q1 fun ρ2 σ2 H2 q2 k2 I2 t2 => k _ _ _ q2 (k1.trans k2) I2 (t1.trans t2)⟩⟩
instance igTup {Kf : PySem.W.Frag} {n : Nat} {gs : TGs} {Gs : TDGs} {ts : List Nat} [s : RefGs C gs Gs ts] : RefG C (gTup Kf n gs) (GTup n Gs) ts := ⟨fun {σ H Q ρ K d w} I r h k => by
  cases d with
  | tuple ds =>
    simp only [Rp] at r
    obtain ⟨a, xs, rfl, ha, rl⟩ := r
    exact ⟨a, xs, rfl, SqT.of ha, by rw [← rpL_len rl]; exact h.1, s.go I rl h.2 k⟩
  | _ => exact h.elim⟩
/-- e assigned to a target of several names -/
def DAsgG (T : TD) (G : TDG) : TDS := fun DD ρ => T ρ fun d ρ1 => G d ρ1 DD.nx
instance (priority := low) iAsgG {t : TE} {g : TG} {T : TD} {G : TDG} {ts : List Nat} [r : Ref C t T] [s : RefG C g G ts] : RefS C (tAsg t g) (DAsgG T G) := ⟨fun {D σ H ρ DD} I h n rt bk ct =>
  r.go I h fun d ρ1 w H1 q1 k1 I1 r1 => s.go I1 r1 q1 fun ρ2 σ2 H2 q2 k2 I2 _ => n _ _ _ q2 (k1.trans k2) I2⟩
/-- i, j = a, b -/
def DPar (i j : Nat) (TA : TDA) : TDS := fun DD ρ => TA ρ fun ds ρ1 => match ds with
  | [d, e] => DD.nx ((ρ1.set i (some (.d d))).set j (some (.d e)))
  | _ => False
instance iPar {i j : Nat} {ta : TA} {TA : TDA} [r : RefA C ta TA] : RefS C (tPar i j ta) (DPar i j TA) := ⟨fun {D σ H ρ DD} I h n rt bk ct =>
  r.go I h fun ds ρ1 ws H1 q1 k1 I1 r1 => by
    match ds, q1 with
    | [d, e], q1 =>
      simp only [RpL] at r1
      obtain ⟨x, r, rfl, h1, y, r', rfl, h2, rfl⟩ := r1
      exact ⟨x, y, rfl, n _ _ _ q1 k1 ((I1.setD h1).setD h2)⟩⟩
end
/-! ### what is walked -/
structure WalkD (Hs : Hp) (J : It) (items : List PyData) : Prop where
  ex : ∃ (G : Hp → Prop) (Y : Nat → Hp → V → Hp → Prop), Walk J items.length G Y ∧ (∀ H, Kp Hs H → G H) ∧ ∀ i H x H', i < items.length → Kp Hs H → Y i H x H' → Same H H' ∧ ∃ d, items[i]? = some d ∧ Rp H' d x
abbrev TDI := DSt → (List PyData → DSt → Prop) → Prop
class RefI (C : DC) (wi : TI) (T : outParam TDI) : Prop where
  go : ∀ {σ : L2.St} {H : Hp} {R : It → Hp → Prop} {ρ : DSt} {K : List PyData → DSt → Prop}, DI C ρ σ H → T ρ K → (∀ items ρ' J H', K items ρ' → Kp H H' → DI C ρ' σ H' → WalkD H' J items → R J H') → wi σ H R
theorem rpL_get {H : Hp} : ∀ {ds : List PyData} {xs : List V} {i : Nat} {x : V}, RpL H ds xs → xs[i]? = some x → ∃ d, ds[i]? = some d ∧ Rp H d x
  | [], xs, i, x, r, h => by simp only [RpL] at r; subst r; simp at h
  | d :: ds, xs, i, x, r, h => by
    simp only [RpL] at r
    obtain ⟨y, r', rfl, r1, r2⟩ := r
    cases i with
    | zero => simp at h; subst h; exact ⟨d, rfl, r1⟩
    | succ i => simpa using rpL_get r2 (by simpa using h)
theorem rpL_at {H : Hp} : ∀ {ds : List PyData} {xs : List V} {i : Nat} {d : PyData}, RpL H ds xs → ds[i]? = some d → ∃ x, xs[i]? = some x ∧ Rp H d x
  | d :: ds, xs, i, e, r, h => by
    simp only [RpL] at r
    obtain ⟨y, r', rfl, r1, r2⟩ := r
    cases i with
    | zero => simp at h; subst h; exact ⟨y, rfl, r1⟩
    | succ i => simpa using rpL_at r2 (by simpa using h)
def isL (d : PyData) (k : List PyData → Prop) : Prop := match d with
  | .list xs => k xs
  | _ => False
def isT (d : PyData) (k : List PyData → Prop) : Prop := match d with
  | .tuple xs => k xs
  | _ => False
def isS (d : PyData) (k : Str → Prop) : Prop := match d with
  | .str x => k x
  | _ => False
def isI (d : PyData) (k : Int → Prop) : Prop := match d with
  | .int x => k x
  | _ => False
theorem isL_go {d : PyData} {k : List PyData → Prop} (h : isL d k) : ∃ xs, d = .list xs ∧ k xs := by
  cases d <;> first | exact ⟨_, rfl, h⟩ | exact h.elim
theorem isT_go {d : PyData} {k : List PyData → Prop} (h : isT d k) : ∃ xs, d = .tuple xs ∧ k xs := by
  cases d <;> first | exact ⟨_, rfl, h⟩ | exact h.elim
theorem isS_go {d : PyData} {k : Str → Prop} (h : isS d k) : ∃ xs, d = .str xs ∧ k xs := by
  cases d <;> first | exact ⟨_, rfl, h⟩ | exact h.elim
theorem isI_go {d : PyData} {k : Int → Prop} (h : isI d k) : ∃ xs, d = .int xs ∧ k xs := by
  cases d <;> first | exact ⟨_, rfl, h⟩ | exact h.elim
theorem rp_list {H : Hp} {xs : List PyData} {w : V} (r : Rp H (.list xs) w) : ∃ a o vs, w = .ref a ∧ H a = some (.frz o (.lst vs)) ∧ RpL H xs vs := by simpa only [Rp] using r
theorem rp_tup {H : Hp} {xs : List PyData} {w : V} (r : Rp H (.tuple xs) w) : ∃ a vs, w = .ref a ∧ H a = some (.tup vs) ∧ RpL H xs vs := by simpa only [Rp] using r
theorem rp_str {H : Hp} {x : Str} {w : V} (r : Rp H (.str x) w) : w = .str x := by simpa only [Rp] using r
theorem rp_int {H : Hp} {x : Int} {w : V} (r : Rp H (.int x) w) : w = .int x := by simpa only [Rp] using r
theorem rp_bl {H : Hp} {x : Bool} {w : V} (r : Rp H (.bool x) w) : w = .bl x := by simpa only [Rp] using r
theorem rp_non {H : Hp} {w : V} (r : Rp H .none w) : w = .non := by simpa only [Rp] using r
def rngD (lo : Int) (n : Nat) : List PyData := (List.range n).map fun (i : Nat) => PyData.int (lo + i)
def chars (x : Str) : List PyData := x.cps.toList.map fun c => PyData.str ⟨#[c]⟩
section
variable {C : DC} {Kf : PySem.W.Frag}
theorem walkD_list {H : Hp} {xs : List PyData} {a : Addr} {o : Obj} {vs : List V} (ha : H a = some (.frz o (.lst vs))) (r : RpL H xs vs) : WalkD H (Itl Kf a) xs := by
  refine ⟨fun H' => SqL Kf H' a vs, YAt vs, by rw [rpL_len r]; exact walk_list, fun H' k => .inl (.inr ⟨o, k.fz _ _ _ ha⟩), ?_⟩
  rintro i H1 x H2 _ k ⟨rfl, e⟩
  obtain ⟨d, h1, h2⟩ := rpL_get r e
  exact ⟨fun _ _ e => e, d, h1, h2.keep k⟩
theorem walkD_tup {H : Hp} {xs : List PyData} {a : Addr} {vs : List V} (ha : H a = some (.tup vs)) (r : RpL H xs vs) : WalkD H (Itt Kf a) xs := by
  refine ⟨fun H' => SqT Kf H' a vs, YAt vs, by rw [rpL_len r]; exact walk_tup, fun H' k => SqT.of (k.tu _ _ ha), ?_⟩
  rintro i H1 x H2 _ k ⟨rfl, e⟩
  obtain ⟨d, h1, h2⟩ := rpL_get r e
  exact ⟨fun _ _ e => e, d, h1, h2.keep k⟩
theorem walkD_range {H : Hp} {lo : Int} {n : Nat} : WalkD H (Itr lo n) (rngD lo n) := by
  have hl : (rngD lo n).length = n := by simp [rngD]
  refine ⟨fun _ => True, YFn fun i => .int (lo + i), by rw [hl]; exact walk_range, fun _ _ => trivial, ?_⟩
  rintro i H1 x H2 hi k ⟨rfl, rfl⟩
  rw [hl] at hi
  exact ⟨fun _ _ e => e, .int (lo + i), by simp [rngD, hi], Rp.int⟩
theorem walkD_str {H : Hp} {z : Str} : WalkD H (Its z) (chars z) := by
  have hl : (chars z).length = z.cps.size := by simp [chars]
  refine ⟨fun _ => True, _, by rw [hl]; exact walk_str, fun _ _ => trivial, ?_⟩
  rintro i H1 x H2 hi k ⟨rfl, c, hc, rfl⟩
  exact ⟨fun _ _ e => e, .str ⟨#[c]⟩, by simp [chars, hc], Rp.str⟩
def IList (T : TD) : TDI := fun ρ K => T ρ fun d ρ1 => isL d fun xs => K xs ρ1
def ITup (T : TD) : TDI := fun ρ K => T ρ fun d ρ1 => isT d fun xs => K xs ρ1
def IStr (T : TD) : TDI := fun ρ K => T ρ fun d ρ1 => isS d fun x => K (chars x) ρ1
def IRng1 (TA : TDA) : TDI := fun ρ K => TA ρ fun ds ρ1 => match ds with
  | [.int j] => (-(2 ^ 62) ≤ j ∧ j < 2 ^ 62) ∧ K (rngD 0 j.toNat) ρ1
  | _ => False
def IRng2 (TA : TDA) : TDI := fun ρ K => TA ρ fun ds ρ1 => match ds with
  | [.int i, .int j] => (-(2 ^ 62) ≤ i ∧ i < 2 ^ 62 ∧ -(2 ^ 62) ≤ j ∧ j < 2 ^ 62) ∧ K (rngD i (j - i).toNat) ρ1
  | _ => False
instance iiList {t : TE} {T : TD} [r : Ref C t T] : RefI C (iList Kf t) (IList T) := ⟨fun {σ H R ρ K} I h k =>
  r.go I h fun d ρ1 w H1 q1 k1 I1 r1 => by
    obtain ⟨xs, rfl, q⟩ := isL_go q1
    obtain ⟨a, o, vs, rfl, ha, rl⟩ := rp_list r1
    exact ⟨a, rfl, ⟨vs, .inl (.inr ⟨o, ha⟩)⟩, k _ _ _ _ q k1 I1 (walkD_list ha rl)⟩⟩
instance iiTup {t : TE} {T : TD} [r : Ref C t T] : RefI C (L2.iTup Kf t) (ITup T) := ⟨fun {σ H R ρ K} I h k =>
  r.go I h fun d ρ1 w H1 q1 k1 I1 r1 => by
    obtain ⟨xs, rfl, q⟩ := isT_go q1
    obtain ⟨a, vs, rfl, ha, rl⟩ := rp_tup r1
    exact ⟨a, rfl, ⟨vs, SqT.of ha⟩, k _ _ _ _ q k1 I1 (walkD_tup ha rl)⟩⟩
instance iiStr {t : TE} {T : TD} [r : Ref C t T] : RefI C (L2.iStr t) (IStr T) := ⟨fun {σ H R ρ K} I h k =>
  r.go I h fun d ρ1 w H1 q1 k1 I1 r1 => by
    obtain ⟨x, rfl, q⟩ := isS_go q1
    exact ⟨x, rp_str r1, k _ _ _ _ q k1 I1 walkD_str⟩⟩
instance iiRng1 {ta : TA} {TA : TDA} [r : RefA C ta TA] : RefI C (iRng1 ta) (IRng1 TA) := ⟨fun {σ H R ρ K} I h k =>
  r.go I h fun ds ρ1 ws H1 q1 k1 I1 r1 => by
    match ds, q1, r1 with
    | [.int j], q1, r1 =>
      simp only [RpL, Rp] at r1
      obtain ⟨x, r, rfl, rfl, rfl⟩ := r1
      exact ⟨j, rfl, q1.1.1, q1.1.2, k _ _ _ _ q1.2 k1 I1 walkD_range⟩⟩
instance iiRng2 {ta : TA} {TA : TDA} [r : RefA C ta TA] : RefI C (iRng2 ta) (IRng2 TA) := ⟨fun {σ H R ρ K} I h k =>
  r.go I h fun ds ρ1 ws H1 q1 k1 I1 r1 => by
    match ds, q1, r1 with
    | [.int i, .int j], q1, r1 =>
      simp only [RpL, Rp] at r1
      obtain ⟨x, r, rfl, rfl, y, r', rfl, rfl, rfl⟩ := r1
      exact ⟨i, j, rfl, q1.1, k _ _ _ _ q1.2 k1 I1 walkD_range⟩⟩
end
/-! ### for -/
/-- the turns of a for over items -/
def ForB (items : List PyData) (G : TDG) (U : TDS) (DD : DEnds) (ρ1 : DSt) : Prop := ∃ W : Nat → DSt → Prop, W 0 ρ1 ∧ (∀ i x ρ, items[i]? = some x → W i ρ → G x ρ fun ρ2 => U { nx := W (i + 1), rt := DD.rt, bk := DD.nx, ct := W (i + 1) } ρ2) ∧ ∀ ρ, W items.length ρ → DD.nx ρ
def DFor (T : TDI) (G : TDG) (U : TDS) : TDS := fun DD ρ => T ρ fun items ρ1 => ForB items G U DD ρ1
section
variable {C : DC}
instance iFor {wi : TI} {g : TG} {u : TS} {T : TDI} {G : TDG} {U : TDS} {ts : List Nat} [r : RefI C wi T] [s : RefG C g G ts] [s' : RefS C u U] : RefS C (tFor wi g u) (DFor T G U) := ⟨fun {D σ H ρ DD} I h n rt bk ct =>
  r.go I h fun items ρ1 J H1 q1 k1 I1 wd => by
    obtain ⟨W, w0, hs, hd⟩ := q1
    obtain ⟨Gg, Y, wk, hG, hY⟩ := wd.ex
    refine for_it wk (fun i σ' H' => ∃ ρ', DI C ρ' σ' H' ∧ Kp H1 H' ∧ W i ρ') ⟨ρ1, I1, Kp.refl _, w0⟩ (fun i σ' H' _ ⟨ρ', _, k, _⟩ => hG H' k) ?_ ?_
    · rintro i x σ2 H2 H3 hi ⟨ρ2, I2, k2, w2⟩ y
      obtain ⟨s3, d, hd, rd⟩ := hY i H2 x H3 hi k2 y
      have k3 := k2.trans (Kp.same s3)
      refine s.go (I2.same s3) rd (hs i d ρ2 hd w2) fun ρ4 σ4 H4 q4 k4 I4 _ => ?_
      have k14 := k3.trans k4
      exact s'.go I4 q4 (fun ρ5 σ5 H5 q5 k5 I5 => ⟨ρ5, I5, k14.trans k5, q5⟩) (fun d ρ5 w σ5 H5 q5 k5 I5 r5 => rt d _ _ _ _ q5 ((k1.trans k14).trans k5) I5 r5) (fun ρ5 σ5 H5 q5 k5 I5 => n _ _ _ q5 ((k1.trans k14).trans k5) I5) fun ρ5 σ5 H5 q5 k5 I5 => ⟨ρ5, I5, k14.trans k5, q5⟩
    · rintro σ2 H2 ⟨ρ2, I2, k2, w2⟩
      exact n _ _ _ (hd _ w2) (k1.trans k2) I2⟩
end
/-! ### comprehensions -/
def wipeD (ρ : DSt) : List Nat → DSt
  | [] => ρ
  | v :: vs => (wipeD ρ vs).set v none
theorem wipeD_length (ρ : DSt) : ∀ vs : List Nat, (wipeD ρ vs).length = ρ.length
  | [] => rfl
  | v :: vs => by unfold wipeD; rw [List.length_set, wipeD_length ρ vs]
theorem wipeD_some {ρ : DSt} {i : Nat} {x : DV} : ∀ {vs : List Nat}, (wipeD ρ vs)[i]? = some (some x) → ρ[i]? = some (some x) ∧ i ∉ vs
  | [], h => ⟨h, by simp⟩
  | v :: vs, h => by
    unfold wipeD at h
    rcases get_set h with ⟨_, z, _⟩ | ⟨ne, h⟩
    · cases z
    · obtain ⟨h1, h2⟩ := wipeD_some h
      exact ⟨h1, by simp only [List.mem_cons, not_or]; exact ⟨ne, h2⟩⟩
theorem wipe_ne {σ : L2.St} {i : Nat} : ∀ {vs : List Nat}, i ∉ vs → (wipe σ vs)[i]? = σ[i]?
  | [], _ => rfl
  | v :: vs, h => by
    simp only [List.mem_cons, not_or] at h
    unfold wipe
    rw [List.getElem?_set_ne (Ne.symm h.1), wipe_ne h.2]
theorem wipeD_mem {ρ : DSt} {i : Nat} : ∀ {vs : List Nat}, i ∈ vs → (wipeD ρ vs)[i]? = if i < ρ.length then some none else none
  | v :: vs, h => by
    unfold wipeD
    by_cases e : v = i
    · subst e
      by_cases l : v < ρ.length
      · rw [if_pos l, List.getElem?_set_self (by rw [wipeD_length]; exact l)]
      · rw [if_neg l, List.getElem?_eq_none (by rw [List.length_set, wipeD_length]; omega)]
    · rw [List.getElem?_set_ne e]
      rcases List.mem_cons.mp h with h | h
      · exact absurd h.symm e
      · exact wipeD_mem h
theorem wipeD_ne {ρ : DSt} {i : Nat} : ∀ {vs : List Nat}, i ∉ vs → (wipeD ρ vs)[i]? = ρ[i]?
  | [], _ => rfl
  | v :: vs, h => by
    simp only [List.mem_cons, not_or] at h
    unfold wipeD
    rw [List.getElem?_set_ne (Ne.symm h.1), wipeD_ne h.2]
theorem wipeD_wipeD {ρ : DSt} {vs : List Nat} : wipeD (wipeD ρ vs) vs = wipeD ρ vs := by
  apply List.ext_getElem?
  intro i
  by_cases h : i ∈ vs
  · rw [wipeD_mem h, wipeD_mem h, wipeD_length]
  · rw [wipeD_ne h]
section
variable {C : DC}
theorem DI.wiped {ρ : DSt} {σ σ' : L2.St} {H : Hp} {vs : List Nat} (I : DI C ρ σ H) (e : wipe σ vs = wipe σ' vs) : DI C (wipeD ρ vs) σ' H := by
  have same : ∀ i, i ∉ vs → σ[i]? = σ'[i]? := fun i hi => by rw [← wipe_ne (σ := σ) hi, e, wipe_ne hi]
  refine ⟨?_, fun i dv h => ?_, fun i j x y w hi hj mx my h1 h2 => ?_, I.fr, I.sx, I.nx, I.j⟩
  · rw [wipeD_length, I.len, ← wipe_length σ vs, e, wipe_length]
  · obtain ⟨h1, h2⟩ := wipeD_some h
    obtain ⟨w, h3, h4⟩ := I.at_ i dv h1
    exact ⟨w, by rw [← same i h2]; exact h3, h4⟩
  · obtain ⟨a1, a2⟩ := wipeD_some hi
    obtain ⟨b1, b2⟩ := wipeD_some hj
    rw [← same i a2] at h1
    rw [← same j b2] at h2
    exact I.sep i j x y w a1 b1 mx my h1 h2
/-- the frame with one list more that no slot holds -/
def DC.hold (C : DC) (D : Addr) (u : HO) (hD : ¬ C.N D) : DC where
  H0 := C.H0
  S := C.S
  N := fun b => C.N b ∨ b = D
  J := fun H => C.J H ∧ H D = some u
  js := fun H H' s j => ⟨C.js H H' s j.1, s _ _ j.2⟩
  jb := fun H H' p u' hp ld n b j => ⟨C.jb H H' p u' hp ld (fun z => n (.inl z)) b j.1, b _ _ (fun z => n (.inr z.symm)) j.2⟩
  ju := fun H p o u' hp ld n j => ⟨C.ju H p o u' hp ld (fun z => n (.inl z)) j.1, by rw [upd_ne (fun z => n (.inr z.symm))]; exact j.2⟩
theorem Dv.hold {H : Hp} {D : Addr} {u : HO} {hD : ¬ C.N D} {dv : DV} {w : V} (h : Dv C H dv w) (ne : dv.mt = true → w ≠ .ref D) : Dv (C.hold D u hD) H dv w := by
  cases dv with
  | d x => exact h
  | v x => exact h
  | o x => exact h
  | l ys =>
    obtain ⟨a, vs, rfl, h1, h2, h3, h4, h5⟩ := h
    exact ⟨a, vs, rfl, h1, h2, h3, h4, fun z => z.elim h5 fun e => ne rfl (by rw [e])⟩
  | m ys =>
    obtain ⟨a, vs, rfl, h1, h2, h3, h4, h5⟩ := h
    exact ⟨a, vs, rfl, h1, h2, h3, h4, fun z => z.elim h5 fun e => ne rfl (by rw [e])⟩
  | pot a c =>
    obtain ⟨rfl, h1, h2, h5⟩ := h
    exact ⟨rfl, h1, h2, fun z => z.elim h5 fun e => ne rfl (by rw [e])⟩
theorem Dv.unhold {H : Hp} {D : Addr} {u : HO} {hD : ¬ C.N D} {dv : DV} {w : V} (h : Dv (C.hold D u hD) H dv w) : Dv C H dv w ∧ (dv.mt = true → w ≠ .ref D) := by
  cases dv with
  | d x => exact ⟨h, fun z => nomatch z⟩
  | v x => exact ⟨h, fun z => nomatch z⟩
  | o x => exact ⟨h, fun z => nomatch z⟩
  | l ys =>
    obtain ⟨a, vs, rfl, h1, h2, h3, h4, h5⟩ := h
    exact ⟨⟨a, vs, rfl, h1, h2, h3, h4, fun z => h5 (.inl z)⟩, fun _ e => h5 (.inr (V.ref.inj e))⟩
  | m ys =>
    obtain ⟨a, vs, rfl, h1, h2, h3, h4, h5⟩ := h
    exact ⟨⟨a, vs, rfl, h1, h2, h3, h4, fun z => h5 (.inl z)⟩, fun _ e => h5 (.inr (V.ref.inj e))⟩
  | pot a c =>
    obtain ⟨rfl, h1, h2, h5⟩ := h
    exact ⟨⟨rfl, h1, h2, fun z => h5 (.inl z)⟩, fun _ e => h5 (.inr (V.ref.inj e))⟩
theorem DI.hold {ρ : DSt} {σ : L2.St} {H : Hp} {D : Addr} {u : HO} {hD : ¬ C.N D} (I : DI C ρ σ H) (h : H D = some u) (ap : ∀ (i : Nat) y, ρ[i]? = some (some y) → y.mt = true → σ[i]? ≠ some (some (.ref D))) : DI (C.hold D u hD) ρ σ H := by
  refine ⟨I.len, fun i dv e => ?_, I.sep, I.fr, I.sx, fun b hb => ?_, I.j, h⟩
  · obtain ⟨w, h1, h2⟩ := I.at_ i dv e
    exact ⟨w, h1, h2.hold fun m z => ap i dv e m (by rw [h1, z])⟩
  · rcases hb with hb | hb
    · exact I.nx b hb
    · exact ⟨_, hb ▸ h⟩
theorem DI.unhold {ρ : DSt} {σ : L2.St} {H : Hp} {D : Addr} {u : HO} {hD : ¬ C.N D} (I : DI (C.hold D u hD) ρ σ H) : DI C ρ σ H ∧ H D = some u ∧ ∀ (i : Nat) y, ρ[i]? = some (some y) → y.mt = true → σ[i]? ≠ some (some (.ref D)) := by
  refine ⟨⟨I.len, fun i dv e => ?_, I.sep, I.fr, I.sx, fun b hb => I.nx b (.inl hb), I.j.1⟩, I.j.2, fun i y e m z => ?_⟩
  · obtain ⟨w, h1, h2⟩ := I.at_ i dv e
    exact ⟨w, h1, h2.unhold.1⟩
  · obtain ⟨w, h1, h2⟩ := I.at_ i y e
    rw [z] at h1
    cases h1
    exact h2.unhold.2 m rfl
end
/-- the turns of a comprehension over items -/
def LcB (items : List PyData) (G : TDG) (ts : List Nat) (TT : TDT) (TE : TD) (vs : List Nat) (ρ1 : DSt) (K : DV → DSt → Prop) : Prop := items.length ≤ 100000 ∧ ts.all (vs.contains ·) = true ∧ ∃ W : Nat → List PyData → DSt → Prop, W 0 [] (wipeD ρ1 vs) ∧
  (∀ i x acc ρ, items[i]? = some x → W i acc ρ → G x ρ fun ρ2 => TT ρ2 fun b ρ3 => if b = true then TE ρ3 fun d ρ4 => W (i + 1) (acc ++ [d]) (wipeD ρ4 vs) else W (i + 1) acc (wipeD ρ3 vs)) ∧ ∀ acc ρ, W items.length acc ρ → K (.l acc) ρ
def DLc (T : TDI) (G : TDG) (ts : List Nat) (TT : TDT) (TE : TD) (vs : List Nat) : TN := fun ρ K => T ρ fun items ρ1 => LcB items G ts TT TE vs ρ1 K
theorem rpL_snoc {H : Hp} {d : PyData} {w : V} (rd : Rp H d w) : ∀ {ds : List PyData} {xs : List V}, RpL H ds xs → RpL H (ds ++ [d]) (xs ++ [w])
  | [], xs, h => by
    simp only [RpL] at h
    subst h
    exact RpL.cons rd RpL.nil
  | e :: ds, xs, h => by
    simp only [RpL] at h
    obtain ⟨x, r, rfl, h1, h2⟩ := h
    exact RpL.cons h1 (rpL_snoc rd h2)
section
variable {C : DC}
theorem wipe_wipe {σ : L2.St} {vs : List Nat} : wipe (wipe σ vs) vs = wipe σ vs := by
  apply List.ext_getElem?
  intro i
  by_cases h : i ∈ vs
  · have nn : ∀ (τ : L2.St), (wipe τ vs)[i]? = if i < τ.length then some none else none := fun τ => by
      have hl := wipe_length τ vs
      split
      · rename_i hi
        have hi2 : i < (wipe τ vs).length := by omega
        rw [List.getElem?_eq_getElem hi2]
        cases q : (wipe τ vs)[i] with
        | none => rfl
        | some x => exact absurd h (wipe_some (σ := τ) (x := x) (by rw [List.getElem?_eq_getElem hi2, q])).2
      · rw [List.getElem?_eq_none (by omega)]
    rw [nn, nn, wipe_length]
  · rw [wipe_ne h]
theorem wipe_tch {σ σ2 : L2.St} {ts vs : List Nat} (t : Tch ts (wipe σ vs) σ2) (hs : ts.all (vs.contains ·) = true) : wipe σ2 vs = wipe σ vs := by
  have sub : ∀ i, i ∈ ts → i ∈ vs := fun i hi => by
    have := List.all_eq_true.mp hs i hi
    simpa using this
  rw [← wipe_wipe (σ := σ)]
  apply List.ext_getElem?
  intro i
  by_cases h : i ∈ vs
  · have nn : ∀ (τ : L2.St), (wipe τ vs)[i]? = if i < τ.length then some none else none := fun τ => by
      have hl := wipe_length τ vs
      split
      · rename_i hi
        have hi2 : i < (wipe τ vs).length := by omega
        rw [List.getElem?_eq_getElem hi2]
        cases q : (wipe τ vs)[i] with
        | none => rfl
        | some x => exact absurd h (wipe_some (σ := τ) (x := x) (by rw [List.getElem?_eq_getElem hi2, q])).2
      · rw [List.getElem?_eq_none (by omega)]
    rw [nn, nn, t.1]
  · rw [wipe_ne h, wipe_ne h, t.2 i (fun z => h (sub i z))]
instance iLc {wi : TI} {g : TG} {tt : TT} {te : TE} {vs ts : List Nat} {T : TDI} {G : TDG} {TT : TDT} {TE : TD} [r : RefI C wi T] [s : ∀ C', RefG C' g G ts] [s1 : ∀ C', RefT C' tt TT] [s2 : ∀ C', Ref C' te TE] : RefN C (tLc wi g tt te vs) (DLc T G ts TT TE vs) := ⟨fun {σ H Q ρ K} I h k =>
  r.go I h fun items ρ1 J H1 q1 k1 I1 wd D nD => by
    obtain ⟨hl, hts, W, w0, hs, hd⟩ := q1
    obtain ⟨Gg, Y, wk, hG, hY⟩ := wd.ex
    obtain ⟨n0, ns, nn⟩ := I1.h0 nD
    have I1w : DI C (wipeD ρ1 vs) (wipe σ vs) (upd H1 D (.lst [])) := (I1.wiped (σ' := wipe σ vs) wipe_wipe.symm).same (same_new nD)
    have ap0 : ∀ (i : Nat) y, (wipeD ρ1 vs)[i]? = some (some y) → y.mt = true → (wipe σ vs)[i]? ≠ some (some (.ref D)) := (I1.wiped (σ' := wipe σ vs) wipe_wipe.symm).apart nD
    refine lc_it wk (fun i H' => ∃ ρ' acc vsL, i = i ∧ acc.length ≤ i ∧ DI (C.hold D (.lst vsL) nn) ρ' (wipe σ vs) H' ∧ RpL H' acc vsL ∧ Kp H1 H' ∧ W i acc ρ' ∧ wipeD ρ' vs = ρ') ⟨_, [], [], rfl, Nat.le_refl _, I1w.hold upd_same ap0, RpL.nil, Kp.new nD, w0, ?_⟩ (fun i H' _ ⟨_, _, _, _, _, _, _, k, _⟩ => hG H' k) ?_ ?_
    · exact wipeD_wipeD
    · rintro i x H2 H3 hi ⟨ρ2, acc, vsL, _, la, I2, ra, k2, w2, e2⟩ y
      obtain ⟨s3, d, hd, rd⟩ := hY i H2 x H3 hi k2 y
      have k3 := k2.trans (Kp.same s3)
      refine (s _).go (I2.same s3) rd (hs i d acc ρ2 hd w2) fun ρ4 σ4 H4 q4 k4 I4 t4 => ⟨wipe_tch t4 hts, ?_⟩
      have wt := wipe_tch t4 hts
      refine (s1 _).go I4 q4 fun b ρ5 H5 q5 k5 I5 => ?_
      have k15 := (k3.trans k4).trans k5
      have ra5 : RpL H5 acc vsL := RpL.keep (((Kp.same s3).trans k4).trans k5) _ _ ra
      cases b with
      | true =>
        refine (s2 _).go I5 q5 fun z ρ6 w6 H6 q6 k6 I6 r6 => ?_
        obtain ⟨J6, hD6, ap6⟩ := I6.unhold
        have J7 := J6.wiped (vs := vs) (σ' := wipe σ vs) (by rw [wt, wipe_wipe])
        have ap7 : ∀ (i : Nat) y, (wipeD ρ6 vs)[i]? = some (some y) → y.mt = true → (wipe σ vs)[i]? ≠ some (some (.ref D)) := fun i y e m => by
          obtain ⟨e1, e2⟩ := wipeD_some e
          rw [← wt, wipe_ne e2]
          exact ap6 i y e1 m
        have kD := kp_but hD6 True.intro (But.upd (p := D) (H := H6) (o := .lst (vsL ++ [w6])))
        have J8 := J7.but hD6 True.intro (But.upd (o := .lst (vsL ++ [w6]))) n0 ns nn ap7
        refine ⟨vsL, hD6, ?_, _, acc ++ [z], vsL ++ [w6], rfl, ?_, J8.hold upd_same ap7, RpL.keep kD _ _ (rpL_snoc r6 (RpL.keep k6 _ _ ra5)), (k15.trans k6).trans kD, q6, wipeD_wipeD⟩
        · rw [← rpL_len ra, sizeLine_eq]
          omega
        · rw [List.length_append]
          show _ + 1 ≤ _
          omega
      | false =>
        obtain ⟨J6, hD6, ap6⟩ := I5.unhold
        have J7 := J6.wiped (vs := vs) (σ' := wipe σ vs) (by rw [wt, wipe_wipe])
        have ap7 : ∀ (i : Nat) y, (wipeD ρ5 vs)[i]? = some (some y) → y.mt = true → (wipe σ vs)[i]? ≠ some (some (.ref D)) := fun i y e m => by
          obtain ⟨e1, e2⟩ := wipeD_some e
          rw [← wt, wipe_ne e2]
          exact ap6 i y e1 m
        exact ⟨_, acc, vsL, rfl, by omega, J7.hold hD6 ap7, ra5, k15, q5, wipeD_wipeD⟩
    · rintro H2 ⟨ρ2, acc, vsL, _, la, I2, ra, k2, w2, e2⟩
      obtain ⟨J2, hD2, ap2⟩ := I2.unhold
      have J3 := J2.wiped (vs := vs) (σ' := σ) wipe_wipe
      rw [e2] at J3
      refine k _ _ _ _ (hd acc ρ2 w2) (k1.trans k2) J3 ⟨rfl, ⟨D, vsL, rfl, hD2, ra, n0, ns, nn⟩, fun i y e m => ?_⟩
      rw [← e2] at e
      obtain ⟨e1, e3⟩ := wipeD_some e
      rw [← wipe_ne e3]
      exact ap2 i y e1 m⟩
end
end Dw
end
section
set_option Elab.async false
set_option linter.all false
set_option maxRecDepth 100000
set_option maxHeartbeats 4000000
/-! Tg, part U: Dw: the operations. -/
namespace Dw
open PySem PySem.Spec PyProof.Rows L2 Tg LamX
def RInt (f : Int → Int → PyData) : D2 := fun d e K => isI d fun i => isI e fun j => K (f i j)
def RIntC (P : Int → Int → Prop) (f : Int → Int → PyData) : D2 := fun d e K => isI d fun i => isI e fun j => P i j ∧ K (f i j)
def RStr (f : Str → Str → PyData) : D2 := fun d e K => isS d fun i => isS e fun j => K (f i j)
def RCatS : D2 := fun d e K => isS d fun i => isS e fun j => i.length + j.length ≤ 16777216 ∧ K (.str (i ++ j))
/-- == of scalars -/
def eqC : PyData → PyData → Option Bool
  | .none, .none => some true
  | .none, .int _ => some false
  | .int _, .none => some false
  | .none, .bool _ => some false
  | .bool _, .none => some false
  | .none, .str _ => some false
  | .str _, .none => some false
  | .int i, .int j => some (decide (i = j))
  | .bool i, .bool j => some (decide (i = j))
  | .str i, .str j => some (decide (i = j))
  | .int _, .str _ => some false
  | .str _, .int _ => some false
  | .bool _, .str _ => some false
  | .str _, .bool _ => some false
  | _, _ => none
def REq : D2 := fun d e K => match eqC d e with
  | some b => K (.bool b)
  | none => False
def RNe : D2 := fun d e K => match eqC d e with
  | some b => K (.bool (!b))
  | none => False
def isNone : PyData → Bool
  | .none => true
  | _ => false
def RIsN : D2 := fun d e K => isNone e = true ∧ K (.bool (isNone d))
def RNotN : D2 := fun d e K => isNone e = true ∧ K (.bool (!isNone d))
/-- a sign in a text -/
def RInS : D2 := fun d e K => isS d fun x => isS e fun z => ∃ c, x = ⟨#[c]⟩ ∧ K (.bool (decide (c ∈ z.cps.toList)))
def flD : PyData → Bool
  | .none | .bool _ | .int _ | .str _ => true
  | _ => false
def eqF : PyData → PyData → Bool
  | .none, .none => true
  | .bool a, .bool b => a == b
  | .bool a, .int b => (if a then 1 else 0) == b
  | .int a, .bool b => a == (if b then 1 else 0)
  | .int a, .int b => a == b
  | .str a, .str b => a == b
  | _, _ => false
def inF (x : PyData) (xs : List PyData) : Bool := xs.any fun y => eqF y x
def RIn (neg : Bool) : D2 := fun d e K => flD d = true ∧ match e with
  | .list xs => xs.all flD = true ∧ K (.bool (if neg then !inF d xs else inF d xs))
  | .tuple xs => xs.all flD = true ∧ K (.bool (if neg then !inF d xs else inF d xs))
  | _ => False
def RIxS : D2 := fun d e K => isS d fun z => isI e fun i => z.length ≤ 16777216 ∧ ∃ c, atI z.cps.toList i = some c ∧ K (.str ⟨#[c]⟩)
def RIx : D2 := fun d e K => isI e fun i => match d with
  | .list xs => ∃ x, atI xs i = some x ∧ K x
  | .tuple xs => ∃ x, atI xs i = some x ∧ K x
  | .str z => z.length ≤ 16777216 ∧ ∃ c, atI z.cps.toList i = some c ∧ K (.str ⟨#[c]⟩)
  | _ => False
def RSlS : PyData → Option Int → Option Int → (PyData → Prop) → Prop := fun d lo hi K => isS d fun z => z.length ≤ 16777216 ∧ K (.str (cutS z lo hi))
section
variable {X : Cx}
theorem opD_int {f : Value → Value → Sem Value} {g : Int → Int → V} {G : Int → Int → PyData} (h : OpR X f (rI0 g)) (hg : ∀ i j H, Rp H (G i j) (g i j)) : OpR X f (rD (RInt G)) := OpR.of h fun x y H Q q => by
  obtain ⟨d, e, K, r1, r2, q, k⟩ := q
  obtain ⟨i, rfl, q1⟩ := isI_go q
  obtain ⟨j, rfl, q2⟩ := isI_go q1
  exact ⟨i, j, rp_int r1, rp_int r2, k _ _ _ q2 (fun _ _ e => e) (hg i j H)⟩
theorem opD_intC {f : Value → Value → Sem Value} {P : Int → Int → Prop} {g : Int → Int → V} {G : Int → Int → PyData} (h : OpR X f (rI P g)) (hg : ∀ i j H, Rp H (G i j) (g i j)) : OpR X f (rD (RIntC P G)) := OpR.of h fun x y H Q q => by
  obtain ⟨d, e, K, r1, r2, q, k⟩ := q
  obtain ⟨i, rfl, q1⟩ := isI_go q
  obtain ⟨j, rfl, q2⟩ := isI_go q1
  exact ⟨i, j, rp_int r1, rp_int r2, q2.1, k _ _ _ q2.2 (fun _ _ e => e) (hg i j H)⟩
theorem dAdd : OpR X (binaryOp .Add) (rD (RInt fun i j => .int (i + j))) := opD_int op_add fun _ _ _ => Rp.int
theorem dSub : OpR X (binaryOp .Sub) (rD (RInt fun i j => .int (i - j))) := opD_int op_sub fun _ _ _ => Rp.int
theorem dMul : OpR X (binaryOp .Mult) (rD (RIntC CMul fun i j => .int (i * j))) := opD_intC op_mul fun _ _ _ => Rp.int
theorem dMod : OpR X (binaryOp .Mod) (rD (RIntC (fun _ j => 0 < j) fun i j => .int (i % j))) := opD_intC op_mod fun _ _ _ => Rp.int
theorem dFdiv : OpR X (binaryOp .FloorDiv) (rD (RIntC CDiv fun i j => .int (i / j))) := opD_intC op_fdiv fun _ _ _ => Rp.int
theorem dPow : OpR X (binaryOp .Pow) (rD (RIntC CPow fun i j => .int (i ^ j.toNat))) := opD_intC op_pow fun _ _ _ => Rp.int
theorem dLt : OpR X (compareOp .Lt) (rD (RInt fun i j => .bool (decide (i < j)))) := opD_int op_lt fun _ _ _ => Rp.bl
theorem dLe : OpR X (compareOp .LtE) (rD (RInt fun i j => .bool (decide (i ≤ j)))) := opD_int op_le fun _ _ _ => Rp.bl
theorem dGt : OpR X (compareOp .Gt) (rD (RInt fun i j => .bool (decide (j < i)))) := opD_int op_gt fun _ _ _ => Rp.bl
theorem dGe : OpR X (compareOp .GtE) (rD (RInt fun i j => .bool (decide (j ≤ i)))) := opD_int op_ge fun _ _ _ => Rp.bl
theorem dAddS : OpR X (binaryOp .Add) (rD RCatS) := OpR.of op_add_str fun x y H Q q => by
  obtain ⟨d, e, K, r1, r2, q, k⟩ := q
  obtain ⟨i, rfl, q1⟩ := isS_go q
  obtain ⟨j, rfl, q2⟩ := isS_go q1
  exact ⟨i, j, rp_str r1, rp_str r2, by rw [sizeLine_eq]; exact q2.1, k _ _ _ q2.2 (fun _ _ e => e) Rp.str⟩
theorem dLeS : OpR X (compareOp .LtE) (rD (RStr fun i j => .bool (!decide (j.cps.toList < i.cps.toList)))) := OpR.of op_le_str fun x y H Q q => by
  obtain ⟨d, e, K, r1, r2, q, k⟩ := q
  obtain ⟨i, rfl, q1⟩ := isS_go q
  obtain ⟨j, rfl, q2⟩ := isS_go q1
  exact ⟨i, j, rp_str r1, rp_str r2, k _ _ _ q2 (fun _ _ e => e) Rp.bl⟩
theorem eqC_go {H : Hp} {d e : PyData} {x y : V} {b : Bool} (h : eqC d e = some b) (r1 : Rp H d x) (r2 : Rp H e y) : scal x y = true ∧ decide (x = y) = b := by
  cases d <;> cases e <;> first
    | (simp only [eqC, reduceCtorEq] at h; done)
    | (simp only [Rp] at r1 r2
       subst r1 r2
       simp only [eqC, Option.some.injEq] at h
       subst h
       exact ⟨rfl, by simp⟩)
theorem dEq : OpR X (compareOp .Eq) (rD REq) := OpR.of op_eq fun x y H Q q => by
  obtain ⟨d, e, K, r1, r2, q, k⟩ := q
  unfold REq at q
  split at q
  · rename_i b hb
    obtain ⟨h1, h2⟩ := eqC_go hb r1 r2
    exact ⟨h1, by rw [h2]; exact k _ _ _ q (fun _ _ e => e) Rp.bl⟩
  · exact q.elim
theorem dNe : OpR X (compareOp .NotEq) (rD RNe) := OpR.of op_ne fun x y H Q q => by
  obtain ⟨d, e, K, r1, r2, q, k⟩ := q
  unfold RNe at q
  split at q
  · rename_i b hb
    obtain ⟨h1, h2⟩ := eqC_go hb r1 r2
    exact ⟨h1, by rw [h2]; exact k _ _ _ q (fun _ _ e => e) Rp.bl⟩
  · exact q.elim
theorem non_go {H : Hp} {d : PyData} {x : V} (r : Rp H d x) : decide (x = .non) = isNone d := by
  cases d <;> simp only [Rp] at r
  case none => subst r; rfl
  case bool => subst r; rfl
  case int => subst r; rfl
  case str => subst r; rfl
  case list => obtain ⟨a, o, xs, rfl, _⟩ := r; rfl
  case tuple => obtain ⟨a, xs, rfl, _⟩ := r; rfl
  case dict => rcases r with ⟨a, o, xs, rfl, _⟩ | ⟨_, a, o, rfl, _⟩ <;> rfl
theorem isNone_go {d : PyData} (h : isNone d = true) : d = .none := by cases d <;> first | rfl | cases h
theorem dIsN : OpR X (compareOp .Is) (rD RIsN) := OpR.of op_isN fun x y H Q q => by
  obtain ⟨d, e, K, r1, r2, ⟨h1, q⟩, k⟩ := q
  rw [isNone_go h1] at r2
  exact ⟨rp_non r2, by rw [non_go r1]; exact k _ _ _ q (fun _ _ e => e) Rp.bl⟩
theorem dNotN : OpR X (compareOp .IsNot) (rD RNotN) := OpR.of op_notN fun x y H Q q => by
  obtain ⟨d, e, K, r1, r2, ⟨h1, q⟩, k⟩ := q
  rw [isNone_go h1] at r2
  exact ⟨rp_non r2, by rw [non_go r1]; exact k _ _ _ q (fun _ _ e => e) Rp.bl⟩
theorem dInS : OpR X (compareOp .In) (rD RInS) := OpR.of op_inS fun x y H Q q => by
  obtain ⟨d, e, K, r1, r2, q, k⟩ := q
  obtain ⟨i, rfl, q1⟩ := isS_go q
  obtain ⟨j, rfl, c, rfl, q2⟩ := isS_go q1
  exact ⟨c, j, rp_str r1, rp_str r2, k _ _ _ q2 (fun _ _ e => e) Rp.bl⟩
theorem fl_go {H : Hp} {d : PyData} {x : V} (h : flD d = true) (r : Rp H d x) : flatV x = true := by
  cases d <;> first | (simp only [flD, Bool.false_eq_true] at h; done) | (simp only [Rp] at r; subst r; rfl)
theorem eqF_go {H : Hp} {d e : PyData} {x y : V} (h1 : flD d = true) (h2 : flD e = true) (r1 : Rp H d x) (r2 : Rp H e y) : eqV x y = eqF d e := by
  cases d <;> first | (simp only [flD, Bool.false_eq_true] at h1; done) | (cases e <;> first | (simp only [flD, Bool.false_eq_true] at h2; done) | (simp only [Rp] at r1 r2; subst r1 r2; rfl))
theorem inF_go {H : Hp} {d : PyData} {x : V} (h : flD d = true) (r : Rp H d x) : ∀ {xs : List PyData} {vs : List V}, xs.all flD = true → RpL H xs vs → vs.all flatV = true ∧ inV x vs = inF d xs
  | [], vs, _, rl => by simp only [RpL] at rl; subst rl; exact ⟨rfl, rfl⟩
  | e :: xs, vs, hx, rl => by
    simp only [RpL] at rl
    obtain ⟨y, r', rfl, r1, r2⟩ := rl
    rw [List.all_cons, Bool.and_eq_true] at hx
    obtain ⟨a, b⟩ := inF_go h r hx.2 r2
    refine ⟨by rw [List.all_cons, a, fl_go hx.1 r1]; rfl, ?_⟩
    unfold inV inF at b ⊢
    rw [List.any_cons, List.any_cons, b, eqF_go hx.1 h r1 r]
theorem dIn_go {neg : Bool} {x y : V} {H : Hp} {Q : VK} (q : rD (RIn neg) x y H Q) : rIn X.K neg x y H Q := by
  obtain ⟨d, e, K, r1, r2, ⟨h1, q⟩, k⟩ := q
  cases e with
  | list xs =>
    obtain ⟨a, o, vs, rfl, ha, rl⟩ := rp_list r2
    obtain ⟨h2, h3⟩ := inF_go h1 r1 q.1 rl
    exact ⟨a, vs, rfl, .inl (.inl (.inr ⟨o, ha⟩)), fl_go h1 r1, h2, by rw [h3]; exact k _ _ _ q.2 (fun _ _ e => e) Rp.bl⟩
  | tuple xs =>
    obtain ⟨a, vs, rfl, ha, rl⟩ := rp_tup r2
    obtain ⟨h2, h3⟩ := inF_go h1 r1 q.1 rl
    exact ⟨a, vs, rfl, .inr (SqT.of ha), fl_go h1 r1, h2, by rw [h3]; exact k _ _ _ q.2 (fun _ _ e => e) Rp.bl⟩
  | _ => exact q.elim
theorem dIn : OpR X (compareOp .In) (rD (RIn false)) := OpR.of op_in_seq fun x y H Q q => dIn_go q
theorem dNotIn : OpR X (compareOp .NotIn) (rD (RIn true)) := OpR.of op_notIn_seq fun x y H Q q => dIn_go q
theorem dNeg : UnR X (unaryOp .USub) (uD fun d K => isI d fun i => K (.int (-i))) := UnR.of un_neg fun x H Q q => by
  obtain ⟨d, K, r1, q, k⟩ := q
  obtain ⟨i, rfl, q1⟩ := isI_go q
  exact ⟨i, rp_int r1, k _ _ _ q1 (fun _ _ e => e) Rp.int⟩
theorem at_go {H : Hp} {xs : List PyData} {vs : List V} {i : Int} {x : PyData} (rl : RpL H xs vs) (h : atI xs i = some x) : ∃ v, atI vs i = some v ∧ Rp H x v := by
  unfold atI at h ⊢
  rw [← rpL_len rl]
  cases q : ixN xs.length i with
  | none => rw [q] at h; cases h
  | some j =>
    rw [q] at h
    obtain ⟨v, h1, h2⟩ := rpL_at rl (show xs[j]? = some x from h)
    exact ⟨v, h1, h2⟩
theorem dIx : IxR X (rD RIx) := IxR.of ix_seq fun x y H Q q => by
  obtain ⟨d, e, K, r1, r2, q, k⟩ := q
  obtain ⟨i, rfl, q1⟩ := isI_go q
  cases rp_int r2
  cases d with
  | list xs =>
    obtain ⟨z, h1, q1⟩ := q1
    obtain ⟨a, o, vs, rfl, ha, rl⟩ := rp_list r1
    obtain ⟨v, h2, h3⟩ := at_go rl h1
    exact .inl ⟨a, vs, i, v, rfl, rfl, .inl (.inr ⟨o, ha⟩), h2, k _ _ _ q1 (fun _ _ e => e) h3⟩
  | tuple xs =>
    obtain ⟨z, h1, q1⟩ := q1
    obtain ⟨a, vs, rfl, ha, rl⟩ := rp_tup r1
    obtain ⟨v, h2, h3⟩ := at_go rl h1
    exact .inr (.inl ⟨a, vs, i, v, rfl, rfl, SqT.of ha, h2, k _ _ _ q1 (fun _ _ e => e) h3⟩)
  | str z =>
    obtain ⟨hz, c, h1, q1⟩ := q1
    exact .inr (.inr ⟨z, i, c, rp_str r1, rfl, by rw [sizeLine_eq]; exact hz, h1, k _ _ _ q1 (fun _ _ e => e) Rp.str⟩)
  | _ => exact q1.elim
theorem dSlS : SlR X (sD RSlS) := SlR.of sl_str fun x lo hi H Q q => by
  obtain ⟨d, K, r1, q, k⟩ := q
  obtain ⟨z, rfl, q1⟩ := isS_go q
  exact ⟨z, rp_str r1, by rw [sizeLine_eq]; exact q1.1, k _ _ _ q1.2 (fun _ _ e => e) Rp.str⟩
end
/-! ### slices -/
abbrev TDO := DSt → (Option Int → DSt → Prop) → Prop
class RefO (C : DC) (t : TO) (T : outParam TDO) : Prop where
  go : ∀ {σ : L2.St} {H : Hp} {Q : Option Int → Hp → Prop} {ρ : DSt} {K : Option Int → DSt → Prop}, DI C ρ σ H → T ρ K → (∀ b ρ' H', K b ρ' → Kp H H' → DI C ρ' σ H' → Q b H') → t σ H Q
def ONone : TDO := fun ρ K => K none ρ
def OSome (T : TD) : TDO := fun ρ K => T ρ fun d ρ1 => isI d fun i => K (some i) ρ1
def DSl (R : PyData → Option Int → Option Int → (PyData → Prop) → Prop) (T : TD) (TL TH : TDO) : TD := fun ρ K => T ρ fun d ρ1 => TL ρ1 fun lo ρ2 => TH ρ2 fun hi ρ3 => R d lo hi fun z => K z ρ3
def DSlN (R : PyData → Option Int → Option Int → (List PyData → Prop) → Prop) (T : TD) (TL TH : TDO) : TN := fun ρ K => T ρ fun d ρ1 => TL ρ1 fun lo ρ2 => TH ρ2 fun hi ρ3 => R d lo hi fun z => K (.l z) ρ3
section
variable {C : DC}
instance ioNone : RefO C tNoPart ONone := ⟨fun {σ H Q ρ K} I h k => k none ρ H h (Kp.refl _) I⟩
instance ioSome {t : TE} {T : TD} [r : Ref C t T] : RefO C (tPart t) (OSome T) := ⟨fun {σ H Q ρ K} I h k =>
  r.go I h fun d ρ1 w H1 q1 k1 I1 r1 => by
    obtain ⟨i, rfl, q⟩ := isI_go q1
    exact ⟨i, rp_int r1, k _ _ _ q k1 I1⟩⟩
instance iSl {R : PyData → Option Int → Option Int → (PyData → Prop) → Prop} {t : TE} {tl th : TO} {T : TD} {TL TH : TDO} [r : Ref C t T] [s : RefO C tl TL] [s' : RefO C th TH] : Ref C (L2.tSl (sD R) t tl th) (DSl R T TL TH) := ⟨fun {σ H Q ρ K} I h k =>
  r.go I h fun d ρ1 w H1 q1 k1 I1 r1 => s.go I1 q1 fun lo ρ2 H2 q2 k2 I2 => s'.go I2 q2 fun hi ρ3 H3 q3 k3 I3 => ⟨d, _, r1.keep (k2.trans k3), q3, fun z w4 H4 q4 s4 r4 => k _ _ _ _ q4 ((k1.trans (k2.trans k3)).trans (Kp.same s4)) (I3.same s4) r4⟩⟩
instance iSlN {R : PyData → Option Int → Option Int → (List PyData → Prop) → Prop} {t : TE} {tl th : TO} {T : TD} {TL TH : TDO} [r : Ref C t T] [s : RefO C tl TL] [s' : RefO C th TH] : RefN C (L2.tSl (sN R) t tl th) (DSlN R T TL TH) := ⟨fun {σ H Q ρ K} I h k =>
  r.go I h fun d ρ1 w H1 q1 k1 I1 r1 => s.go I1 q1 fun lo ρ2 H2 q2 k2 I2 => s'.go I2 q2 fun hi ρ3 H3 q3 k3 I3 => ⟨d, _, r1.keep (k2.trans k3), q3, fun z p H4 q4 n4 => by
    obtain ⟨I5, k5, N5⟩ := I3.newL n4
    exact k _ _ _ _ q4 ((k1.trans (k2.trans k3)).trans k5) I5 N5⟩⟩
end
end Dw
end
section
set_option Elab.async false
set_option linter.all false
set_option maxRecDepth 100000
set_option maxHeartbeats 4000000
/-! Tg, part V: Dw: calls of built-ins, of methods, of defs; defs by data. -/
namespace Dw
open PySem PySem.Spec PyProof.Rows L2 Tg LamX
theorem rpL1 {H : Hp} {d : PyData} {xs : List V} (r : RpL H [d] xs) : ∃ x, xs = [x] ∧ Rp H d x := by
  simp only [RpL] at r
  obtain ⟨x, r', rfl, h, rfl⟩ := r
  exact ⟨x, rfl, h⟩
theorem rpL2 {H : Hp} {d e : PyData} {xs : List V} (r : RpL H [d, e] xs) : ∃ x y, xs = [x, y] ∧ Rp H d x ∧ Rp H e y := by
  simp only [RpL] at r
  obtain ⟨x, r', rfl, h, y, r'', rfl, h2, rfl⟩ := r
  exact ⟨x, y, rfl, h, h2⟩
def on1 (ds : List PyData) (k : PyData → Prop) : Prop := match ds with
  | [d] => k d
  | _ => False
def on2 (ds : List PyData) (k : PyData → PyData → Prop) : Prop := match ds with
  | [d, e] => k d e
  | _ => False
theorem on1_go {ds : List PyData} {k : PyData → Prop} (h : on1 ds k) : ∃ d, ds = [d] ∧ k d := by
  match ds, h with
  | [d], h => exact ⟨d, rfl, h⟩
theorem on2_go {ds : List PyData} {k : PyData → PyData → Prop} (h : on2 ds k) : ∃ d e, ds = [d, e] ∧ k d e := by
  match ds, h with
  | [d, e], h => exact ⟨d, e, rfl, h⟩
def RLen : DL := fun ds K => on1 ds fun d => match d with
  | .str z => z.length ≤ 16777216 ∧ K (.int z.length)
  | .list xs => K (.int xs.length)
  | .tuple xs => K (.int xs.length)
  | _ => False
def RIntOf : DL := fun ds K => on1 ds fun d => match d with
  | .int i => K (.int i)
  | .bool b => K (.int (if b then 1 else 0))
  | _ => False
def RIntS : DL := fun ds K => on1 ds fun d => isS d fun a => ∃ n, PySem.intText? a = some n ∧ a.length ≤ 640 ∧ K (.int n)
def RStrI : DL := fun ds K => on1 ds fun d => isI d fun i => i.natAbs.log2 < 1920 ∧ K (.str (toString i))
def RAbs : DL := fun ds K => on1 ds fun d => isI d fun i => K (.int (if i < 0 then -i else i))
def RMin2 : DL := fun ds K => on2 ds fun d e => isI d fun i => isI e fun j => K (.int (if j < i then j else i))
def RMax2 : DL := fun ds K => on2 ds fun d e => isI d fun i => isI e fun j => K (.int (if j > i then j else i))
def RAll : DL := fun ds K => on1 ds fun d => isL d fun xs => ∃ bs : List Bool, xs = bs.map .bool ∧ K (.bool (bs.all id))
def RAny : DL := fun ds K => on1 ds fun d => isL d fun xs => ∃ bs : List Bool, xs = bs.map .bool ∧ K (.bool (bs.any id))
def NList : LL := fun ds K => on1 ds fun d => match d with
  | .list xs => K xs
  | .tuple xs => K xs
  | _ => False
def RTuple : DL := fun ds K => on1 ds fun d => match d with
  | .list xs => K (.tuple xs)
  | .tuple xs => K (.tuple xs)
  | _ => False
def RReprD (n : Nat) : DL := fun ds K => on1 ds fun d => d.showable = true ∧ d.shown.length ≤ 16777216 ∧ n + d.depth + 2 < cLine ∧ K (.str d.shown)
theorem rpL_bools {H : Hp} : ∀ {bs : List Bool} {vs : List V}, RpL H (bs.map PyData.bool) vs → vs = bs.map V.bl
  | [], vs, r => by simpa only [List.map_nil, RpL] using r
  | b :: bs, vs, r => by
    simp only [List.map_cons, RpL, Rp] at r
    obtain ⟨x, r', rfl, rfl, r2⟩ := r
    rw [rpL_bools r2]
    rfl
theorem rpL_strs {H : Hp} : ∀ {bs : List Str} {vs : List V}, RpL H (bs.map PyData.str) vs → vs = bs.map V.str
  | [], vs, r => by simpa only [List.map_nil, RpL] using r
  | b :: bs, vs, r => by
    simp only [List.map_cons, RpL, Rp] at r
    obtain ⟨x, r', rfl, rfl, r2⟩ := r
    rw [rpL_strs r2]
    rfl
theorem rpL_strs_of {H : Hp} : ∀ {bs : List Str}, RpL H (bs.map PyData.str) (bs.map V.str)
  | [] => RpL.nil
  | b :: bs => RpL.cons Rp.str rpL_strs_of
section
variable {X : Cx}
theorem dLen : CallR X (.builtin "len") (cD RLen) := CallR.of call_len fun x H Q q => by
  obtain ⟨ds, K, r, q, k⟩ := q
  obtain ⟨d, rfl, q1⟩ := on1_go q
  obtain ⟨x, rfl, r1⟩ := rpL1 r
  cases d with
  | str z =>
    cases rp_str r1
    exact ⟨_, _, rfl, ⟨by rw [sizeLine_eq]; exact q1.1, rfl⟩, k _ _ _ q1.2 (fun _ _ e => e) Rp.int⟩
  | list xs =>
    obtain ⟨a, o, vs, rfl, ha, rl⟩ := rp_list r1
    exact ⟨_, _, rfl, .inl ⟨vs, .inl (.inr ⟨o, ha⟩), rfl⟩, k _ _ _ q1 (fun _ _ e => e) (by rw [rpL_len rl]; exact Rp.int)⟩
  | tuple xs =>
    obtain ⟨a, vs, rfl, ha, rl⟩ := rp_tup r1
    exact ⟨_, _, rfl, .inr ⟨vs, SqT.of ha, rfl⟩, k _ _ _ q1 (fun _ _ e => e) (by rw [rpL_len rl]; exact Rp.int)⟩
  | _ => exact q1.elim
theorem dIntOf : CallR X (.type "int") (cD RIntOf) := CallR.of call_int1 fun x H Q q => by
  obtain ⟨ds, K, r, q, k⟩ := q
  obtain ⟨d, rfl, q1⟩ := on1_go q
  obtain ⟨x, rfl, r1⟩ := rpL1 r
  cases d with
  | int z =>
    cases rp_int r1
    exact .inl ⟨z, rfl, k _ _ _ q1 (fun _ _ e => e) Rp.int⟩
  | bool z =>
    cases rp_bl r1
    exact .inr ⟨z, rfl, k _ _ _ q1 (fun _ _ e => e) Rp.int⟩
  | _ => exact q1.elim
theorem dIntS : CallR X (.type "int") (cD RIntS) := CallR.of call_int_str fun x H Q q => by
  obtain ⟨ds, K, r, q, k⟩ := q
  obtain ⟨d, rfl, q1⟩ := on1_go q
  obtain ⟨x, rfl, r1⟩ := rpL1 r
  obtain ⟨a, rfl, n, h1, h2, q2⟩ := isS_go q1
  cases rp_str r1
  exact ⟨a, n, rfl, h1, h2, k _ _ _ q2 (fun _ _ e => e) Rp.int⟩
theorem dStrI : CallR X (.type "str") (cD RStrI) := CallR.of call_str_int fun x H Q q => by
  obtain ⟨ds, K, r, q, k⟩ := q
  obtain ⟨d, rfl, q1⟩ := on1_go q
  obtain ⟨x, rfl, r1⟩ := rpL1 r
  obtain ⟨a, rfl, h1, q2⟩ := isI_go q1
  cases rp_int r1
  exact ⟨a, rfl, h1, k _ _ _ q2 (fun _ _ e => e) Rp.str⟩
theorem dAbs : CallR X (.builtin "abs") (cD RAbs) := CallR.of call_abs fun x H Q q => by
  obtain ⟨ds, K, r, q, k⟩ := q
  obtain ⟨d, rfl, q1⟩ := on1_go q
  obtain ⟨x, rfl, r1⟩ := rpL1 r
  obtain ⟨a, rfl, q2⟩ := isI_go q1
  cases rp_int r1
  exact ⟨a, rfl, k _ _ _ q2 (fun _ _ e => e) Rp.int⟩
theorem dMin2 (hc : X.calm = true) : CallR X (.builtin "min") (cD RMin2) := CallR.of (call_min2 hc) fun x H Q q => by
  obtain ⟨ds, K, r, q, k⟩ := q
  obtain ⟨d, e, rfl, q1⟩ := on2_go q
  obtain ⟨x, y, rfl, r1, r2⟩ := rpL2 r
  obtain ⟨a, rfl, q2⟩ := isI_go q1
  obtain ⟨b, rfl, q3⟩ := isI_go q2
  cases rp_int r1
  cases rp_int r2
  exact ⟨a, b, rfl, k _ _ _ q3 (fun _ _ e => e) Rp.int⟩
theorem dMax2 (hc : X.calm = true) : CallR X (.builtin "max") (cD RMax2) := CallR.of (call_max2 hc) fun x H Q q => by
  obtain ⟨ds, K, r, q, k⟩ := q
  obtain ⟨d, e, rfl, q1⟩ := on2_go q
  obtain ⟨x, y, rfl, r1, r2⟩ := rpL2 r
  obtain ⟨a, rfl, q2⟩ := isI_go q1
  obtain ⟨b, rfl, q3⟩ := isI_go q2
  cases rp_int r1
  cases rp_int r2
  exact ⟨a, b, rfl, k _ _ _ q3 (fun _ _ e => e) Rp.int⟩
theorem dAll (hc : X.calm = true) : CallR X (.builtin "all") (cD RAll) := CallR.of (cr_all hc) fun x H Q q => by
  obtain ⟨ds, K, r, q, k⟩ := q
  obtain ⟨d, rfl, q1⟩ := on1_go q
  obtain ⟨x, rfl, r1⟩ := rpL1 r
  obtain ⟨a, rfl, bs, rfl, q2⟩ := isL_go q1
  obtain ⟨p, o, vs, rfl, ha, rl⟩ := rp_list r1
  cases rpL_bools rl
  exact ⟨p, bs, rfl, .inl (.inr ⟨o, ha⟩), k _ _ _ q2 (fun _ _ e => e) Rp.bl⟩
theorem dAny (hc : X.calm = true) : CallR X (.builtin "any") (cD RAny) := CallR.of (cr_any hc) fun x H Q q => by
  obtain ⟨ds, K, r, q, k⟩ := q
  obtain ⟨d, rfl, q1⟩ := on1_go q
  obtain ⟨x, rfl, r1⟩ := rpL1 r
  obtain ⟨a, rfl, bs, rfl, q2⟩ := isL_go q1
  obtain ⟨p, o, vs, rfl, ha, rl⟩ := rp_list r1
  cases rpL_bools rl
  exact ⟨p, bs, rfl, .inl (.inr ⟨o, ha⟩), k _ _ _ q2 (fun _ _ e => e) Rp.bl⟩
theorem dList : CallR X (.type "list") (cN NList) := CallR.of call_list_of fun x H Q q => by
  obtain ⟨ds, K, r, q, k⟩ := q
  obtain ⟨d, rfl, q1⟩ := on1_go q
  obtain ⟨x, rfl, r1⟩ := rpL1 r
  cases d with
  | list xs =>
    obtain ⟨p, o, vs, rfl, ha, rl⟩ := rp_list r1
    exact ⟨p, vs, rfl, .inl (.inl (.inr ⟨o, ha⟩)), fun l nl => k _ _ _ q1 ⟨vs, nl, rfl, rl⟩⟩
  | tuple xs =>
    obtain ⟨p, vs, rfl, ha, rl⟩ := rp_tup r1
    exact ⟨p, vs, rfl, .inr (SqT.of ha), fun l nl => k _ _ _ q1 ⟨vs, nl, rfl, rl⟩⟩
  | _ => exact q1.elim
theorem dTuple : CallR X (.type "tuple") (cD RTuple) := CallR.of call_tuple_of fun x H Q q => by
  obtain ⟨ds, K, r, q, k⟩ := q
  obtain ⟨d, rfl, q1⟩ := on1_go q
  obtain ⟨x, rfl, r1⟩ := rpL1 r
  cases d with
  | list xs =>
    obtain ⟨p, o, vs, rfl, ha, rl⟩ := rp_list r1
    exact ⟨p, vs, rfl, .inl ⟨.inl (.inr ⟨o, ha⟩), fun l nl => k _ _ _ q1 (same_new nl) (Rp.tup upd_same (rl.same (same_new nl)))⟩⟩
  | tuple xs =>
    have r1' := r1
    obtain ⟨p, vs, rfl, ha, rl⟩ := rp_tup r1
    exact ⟨p, vs, rfl, .inr ⟨SqT.of ha, k _ _ _ q1 (fun _ _ e => e) r1'⟩⟩
  | _ => exact q1.elim
theorem dRepr {n : Nat} (hg : X.A.guards = some []) (hn : X.A.units ≤ n) : CallR X (.builtin "repr") (cD (RReprD n)) := CallR.of (call_reprN hg hn) fun x H Q q => by
  obtain ⟨ds, K, r, q, k⟩ := q
  obtain ⟨d, rfl, h1, h2, h3, q1⟩ := on1_go q
  obtain ⟨x, rfl, r1⟩ := rpL1 r
  exact ⟨d, x, rfl, r1, h1, by rw [sizeLine_eq]; exact h2, h3, k _ _ _ q1 (fun _ _ e => e) Rp.str⟩
/-! ### methods of texts -/
def MStarts : PyData → DL := fun x ds K => isS x fun a => on2 ds fun d e => isS d fun b => isI e fun i => K (.bool (Txt.startswith3 a b i))
def MFind : PyData → DL := fun x ds K => isS x fun a => on2 ds fun d e => isS d fun b => isI e fun i => K (.int (Txt.find3 a b i))
def MJoin : PyData → DL := fun x ds K => isS x fun a => on1 ds fun d => isL d fun xs => ∃ ys : List Str, xs = ys.map .str ∧ (ys.map (·.length)).sum + ys.length * a.length ≤ 16777216 ∧ K (.str (Txt.join a ys))
theorem mStarts : MtR X "str.startswith" (mD MStarts) := MtR.of mt_startswith3 fun x xs H Q q => by
  obtain ⟨d, ds, K, r, rl, q, k⟩ := q
  obtain ⟨a, rfl, q1⟩ := isS_go q
  obtain ⟨e, f, rfl, q2⟩ := on2_go q1
  obtain ⟨b, rfl, q3⟩ := isS_go q2
  obtain ⟨i, rfl, q4⟩ := isI_go q3
  obtain ⟨y, z, rfl, r1, r2⟩ := rpL2 rl
  cases rp_str r
  cases rp_str r1
  cases rp_int r2
  exact ⟨a, b, i, rfl, rfl, k _ _ _ q4 (fun _ _ e => e) Rp.bl⟩
theorem mFind : MtR X "str.find" (mD MFind) := MtR.of mt_find3 fun x xs H Q q => by
  obtain ⟨d, ds, K, r, rl, q, k⟩ := q
  obtain ⟨a, rfl, q1⟩ := isS_go q
  obtain ⟨e, f, rfl, q2⟩ := on2_go q1
  obtain ⟨b, rfl, q3⟩ := isS_go q2
  obtain ⟨i, rfl, q4⟩ := isI_go q3
  obtain ⟨y, z, rfl, r1, r2⟩ := rpL2 rl
  cases rp_str r
  cases rp_str r1
  cases rp_int r2
  exact ⟨a, b, i, rfl, rfl, k _ _ _ q4 (fun _ _ e => e) Rp.int⟩
theorem mJoin : MtR X "str.join" (mD MJoin) := MtR.of mt_join fun x xs H Q q => by
  obtain ⟨d, ds, K, r, rl, q, k⟩ := q
  obtain ⟨a, rfl, q1⟩ := isS_go q
  obtain ⟨e, rfl, q2⟩ := on1_go q1
  obtain ⟨b, rfl, ys, rfl, h1, q3⟩ := isL_go q2
  obtain ⟨y, rfl, r1⟩ := rpL1 rl
  obtain ⟨p, o, vs, rfl, ha, rl⟩ := rp_list r1
  cases rpL_strs rl
  cases rp_str r
  exact ⟨a, p, ys, rfl, rfl, .inl (.inl (.inr ⟨o, ha⟩)), h1, k _ _ _ q3 (fun _ _ e => e) Rp.str⟩
end
/-! ### isinstance -/
def tyB (n : String) : PyData → Bool
  | .bool _ => n == "bool" || n == "int"
  | .int _ => n == "int"
  | .str _ => n == "str"
  | .list _ => n == "list"
  | .tuple _ => n == "tuple"
  | .dict _ => n == "dict"
  | .none => false
class TyN (n : String) : Prop where
  kit : ∀ (K : PySem.W.Frag) (d : PyData), PySem.W.kitOne K (tyD d) (.type n) = some (tyB n d)
instance : TyN "bool" := ⟨fun K d => by cases d <;> rfl⟩
instance : TyN "int" := ⟨fun K d => by cases d <;> rfl⟩
instance : TyN "str" := ⟨fun K d => by cases d <;> rfl⟩
instance : TyN "list" := ⟨fun K d => by cases d <;> rfl⟩
instance : TyN "tuple" := ⟨fun K d => by cases d <;> rfl⟩
instance : TyN "dict" := ⟨fun K d => by cases d <;> rfl⟩
def DIs (n : String) (T : TD) : TD := fun ρ K => T ρ fun d ρ1 => K (.bool (tyB n d)) ρ1
def DIs3 (a b c : String) (T : TD) : TD := fun ρ K => T ρ fun d ρ1 => K (.bool (tyB a d || tyB b d || tyB c d)) ρ1
section
variable {C : DC} {Kf : PySem.W.Frag}
instance iIs {n : String} [tn : TyN n] {t : TE} {T : TD} [r : Ref C t T] : Ref C (tCB (rIsD Kf) (tCons t (tCons (tC (.ty n)) tNil))) (DIs n T) := ⟨fun {σ H Q ρ K} I h k =>
  r.go I h fun d ρ1 w H1 q1 k1 I1 r1 => ⟨w, .ty n, d, .type n, tyB n d, rfl, .ty n, r1, tn.kit Kf d, k _ _ _ _ q1 k1 I1 Rp.bl⟩⟩
instance iIs3 {a b c : String} [ta : TyN a] [tb : TyN b] [tc : TyN c] {t : TE} {T : TD} [r : Ref C t T] : Ref C (tCB (rIsDT Kf) (tCons t (tCons (tTup (tCons (tC (.ty a)) (tCons (tC (.ty b)) (tCons (tC (.ty c)) tNil)))) tNil))) (DIs3 a b c T) := ⟨fun {σ H Q ρ K} I h k =>
  r.go I h fun d ρ1 w H1 q1 k1 I1 r1 => ⟨len_ok (by show 3 ≤ 1000; decide), fun p np => ⟨w, p, _, d, [.type a, .type b, .type c], (tyB a d || tyB b d || tyB c d), rfl, upd_same, .cons (.ty a) (.cons (.ty b) (.cons (.ty c) .nil)), r1.same (same_new np), by
    simp only [PySem.W.kitAny, ta.kit, tb.kit, tc.kit]
    cases tyB a d <;> cases tyB b d <;> cases tyB c d <;> rfl, k _ _ _ _ q1 (k1.trans (Kp.new np)) (I1.same (same_new np)) Rp.bl⟩⟩⟩
/-! ### own lists -/
def DApp (i : Nat) (T : TD) : TDS := fun DD ρ => (∃ xs, ρ[i]? = some (some (.l xs))) ∧ T ρ fun d ρ1 => match ρ1[i]? with
  | some (some (.l xs)) => xs.length < 1000000 ∧ DD.nx (ρ1.set i (some (.l (xs ++ [d]))))
  | _ => False
instance iApp {i : Nat} {t : TE} {T : TD} [r : Ref C t T] : RefS C (tDrop (tBM Kf "list" rAppend (tVar i) (tCons t tNil))) (DApp i T) := ⟨fun {D σ H ρ DD} I h n rt bk ct => by
  obtain ⟨⟨xs0, e0⟩, h⟩ := h
  obtain ⟨w0, hw0, a0, vs0, rfl, ha0, _⟩ := I.at_ i _ e0
  refine ⟨_, hw0, .inl ⟨rfl, vs0, SqL.of ha0⟩, r.go I h fun d ρ1 w H1 q1 k1 I1 r1 => ?_⟩
  split at q1
  · rename_i xs e
    obtain ⟨w1, hw1, a, vs, rfl, ha, rl, n0, ns, nn⟩ := I1.at_ i _ e
    rw [hw0] at hw1
    cases hw1
    have kp := kp_but ha True.intro (But.upd (p := a0) (H := H1) (o := .lst (vs ++ [w])))
    refine ⟨a0, vs, w, rfl, rfl, ha, ?_, n _ _ _ q1.2 (k1.trans kp) ?_⟩
    · have := q1.1
      rw [← rpL_len rl, sizeLine_eq]
      omega
    · have I2 := (I1.forget i).but ha True.intro (But.upd (o := .lst (vs ++ [w]))) n0 ns nn (DI.own I1 e hw0 rfl)
      have I3 := I2.tell (i := i) (dv := .l (xs ++ [d])) hw0 ⟨a0, _, rfl, upd_same, RpL.keep kp _ _ (rpL_snoc r1 rl), n0, ns, nn⟩ fun _ j y ne ej my => DI.own I1 e hw0 rfl j y ej my
      rw [set_set] at I3
      exact I3
  · exact q1.elim⟩
end
/-! ### defs by data -/
abbrev DF := List PyData → (PyData → Prop) → Prop
abbrev DFX := List PyData → (PyData → Prop) → (Addr → PyData → Prop) → Prop
def spD (F : DF) : Sp := fun vs H Q _ => ∃ ds K, RpL H ds vs ∧ F ds K ∧ ∀ d w H', K d → Same H H' → Rp H' d w → Q w H'
def spX (F : DFX) : Sp := fun vs H Q E => ∃ ds K Ex, RpL H ds vs ∧ F ds K Ex ∧ (∀ d w H', K d → Same H H' → Rp H' d w → Q w H') ∧
  ∀ Ca d dx w H', Ex Ca d → Same H H' → H' dx = some (.xd [("value", w)]) → Rp H' d w → E (.ref Ca) (some dx) H'
class ExOk (C : DC) (E : XK) (Ex : outParam (Addr → PyData → Prop)) : Prop where
  go : ∀ {ρ : DSt} {σ : L2.St} {H : Hp} {Ca : Addr} {d : PyData} {dx : Addr} {w : V}, DI C ρ σ H → Ex Ca d → H dx = some (.xd [("value", w)]) → Rp H d w → E (.ref Ca) (some dx) H
def DCall (F : DF) (TA : TDA) : TD := fun ρ K => TA ρ fun ds ρ1 => F ds fun d => K d ρ1
def DCallX (F : DFX) (Ex : Addr → PyData → Prop) (TA : TDA) : TD := fun ρ K => TA ρ fun ds ρ1 => F ds (fun d => K d ρ1) Ex
/-- raise C(e) -/
def tRaise (W : WX) (Ca : Addr) (te : TE) : TS := fun _ σ H => te σ H fun v H1 => ∀ d, H1 d = none → W (.ref Ca) (some d) σ (upd H1 d (.xd [("value", v)]))
def DRaise (Ex : Addr → PyData → Prop) (Ca : Addr) (T : TD) : TDS := fun _ ρ => T ρ fun d _ => Ex Ca d
section
variable {C : DC}
instance iCall {F : DF} {E : XK} {ta : TA} {TA : TDA} [r : RefA C ta TA] : Ref C (tCall (spD F) [] E ta) (DCall F TA) := ⟨fun {σ H Q ρ K} I h k =>
  r.go I h fun ds ρ1 ws H1 q1 k1 I1 r1 => ⟨ds, _, by rw [List.append_nil]; exact r1, q1, fun d w H2 q2 s2 r2 => k _ _ _ _ q2 (k1.trans (Kp.same s2)) (I1.same s2) r2⟩⟩
instance iE0 : ExOk C E0 (fun _ _ => False) := ⟨fun _ h _ _ => h.elim⟩
instance iCallX {F : DFX} {E : XK} {Ex : Addr → PyData → Prop} {ta : TA} {TA : TDA} [x : ExOk C E Ex] [r : RefA C ta TA] : Ref C (tCall (spX F) [] E ta) (DCallX F Ex TA) := ⟨fun {σ H Q ρ K} I h k =>
  r.go I h fun ds ρ1 ws H1 q1 k1 I1 r1 => ⟨ds, _, _, by rw [List.append_nil]; exact r1, q1, fun d w H2 q2 s2 r2 => k _ _ _ _ q2 (k1.trans (Kp.same s2)) (I1.same s2) r2, fun Ca d dx w H2 q2 s2 h2 r2 => x.go (I1.same s2) q2 h2 r2⟩⟩
instance iRaise {E : XK} {Ex : Addr → PyData → Prop} {Ca : Addr} {t : TE} {T : TD} [x : ExOk C E Ex] [r : Ref C t T] : RefS C (tRaise (fun cls d _ H => E cls d H) Ca t) (DRaise Ex Ca T) := ⟨fun {D σ H ρ DD} I h n rt bk ct =>
  r.go I h fun d ρ1 w H1 q1 k1 I1 r1 dx ndx => x.go (I1.same (same_new ndx)) q1 upd_same (r1.same (same_new ndx))⟩
end
/-! ### a def's body -/
def pureC (H : Hp) : DC := ⟨H, fun _ => False, fun _ => False, fun _ => True, fun _ _ _ _ => trivial, fun _ _ _ _ _ _ _ _ _ => trivial, fun _ _ _ _ _ _ _ _ => trivial⟩
def startD (n : Nat) (ds : List PyData) : DSt := ds.map (fun d => some (.d d)) ++ List.replicate (n - ds.length) none
theorem start_get {n : Nat} {ds : List PyData} {i : Nat} {dv : DV} (h : (startD n ds)[i]? = some (some dv)) : ∃ d, ds[i]? = some d ∧ dv = .d d := by
  unfold startD at h
  by_cases l : i < ds.length
  · rw [List.getElem?_append_left (by simpa using l), List.getElem?_map] at h
    rw [List.getElem?_eq_getElem l] at h ⊢
    simp only [Option.map_some, Option.some.injEq] at h
    exact ⟨_, rfl, h.symm⟩
  · rw [List.getElem?_append_right (by simpa using l)] at h
    have := List.mem_of_getElem? h
    rw [List.mem_replicate] at this
    cases this.2
theorem DI.start {C : DC} {H : Hp} {N : List Str} {ds : List PyData} {vs : List V} (r : RpL H ds vs) (fr : Fr C.S C.H0 H) (sx : ∀ b, C.S b → ∃ xs, H b = some (.lst xs)) (nx : ∀ b, C.N b → ∃ o, H b = some o) (j : C.J H) : DI C (startD N.length ds) (L2.start N vs) H := by
  have hl := rpL_len r
  refine ⟨by simp [startD, L2.start, hl], fun i dv e => ?_, fun i j x y w hi hj mx => ?_, fr, sx, nx, j⟩
  · obtain ⟨d, h1, rfl⟩ := start_get e
    obtain ⟨x, h2, h3⟩ := rpL_at r h1
    refine ⟨x, ?_, h3⟩
    have l : i < vs.length := by
      by_cases l : i < vs.length
      · exact l
      · rw [List.getElem?_eq_none (by omega)] at h2; cases h2
    unfold L2.start
    rw [List.getElem?_append_left (by simpa using l), List.getElem?_map, h2]
    rfl
  · obtain ⟨d, _, rfl⟩ := start_get hi
    cases mx
theorem DI.pure {H : Hp} {N : List Str} {ds : List PyData} {vs : List V} (r : RpL H ds vs) : DI (pureC H) (startD N.length ds) (L2.start N vs) H :=
  DI.start r (fun b o _ e => .inl e) (fun b hb => hb.elim) (fun b hb => hb.elim) trivial
theorem DI.out {H0 H : Hp} {ρ : DSt} {σ : L2.St} (I : DI (pureC H0) ρ σ H) (nt : ∀ b ps, H0 b ≠ some (.tbl ps)) : Same H0 H := fun b o e => by
  rcases I.fr b o (fun z => z) e with h | ⟨ps, _, rfl, _⟩
  · exact h
  · exact absurd e (nt b ps)
/-- .. the frame of a def that changes nothing: tables stay as they are, too -/
def pureC2 (H : Hp) : DC := ⟨H, fun _ => False, fun _ => False, fun H' => ∀ b ps, H b = some (.tbl ps) → H' b = some (.tbl ps), fun H1 H2 s j b ps e => s _ _ (j b ps e), fun H1 H2 p u hp ld _ but j b ps e => but _ _ (fun z => by
  have h := j b ps e
  rw [z, hp] at h
  cases h
  exact ld) (j b ps e), fun H1 p o u hp _ _ j b ps e => by
  have h := j b ps e
  rw [upd_ne (fun z => by rw [z, hp] at h; cases h)]
  exact h⟩
theorem DI.pure2 {H : Hp} {N : List Str} {ds : List PyData} {vs : List V} (r : RpL H ds vs) : DI (pureC2 H) (startD N.length ds) (L2.start N vs) H :=
  DI.start r (fun b o _ e => .inl e) (fun b hb => hb.elim) (fun b hb => hb.elim) (fun _ _ e => e)
theorem DI.out2 {H0 H : Hp} {ρ : DSt} {σ : L2.St} (I : DI (pureC2 H0) ρ σ H) : Same H0 H := fun b o e => by
  rcases I.fr b o (fun z => z) e with h | ⟨ps, _, rfl, _⟩
  · exact h
  · exact I.j b ps e
section
variable {P : Program} {w : World} {K : PySem.W.Frag} {mg : Str → Option Value} {base : Heap}
/-- a def that raises nothing -/
theorem okD {x ql : Str} {st : Stmt} {f : Addr} {fd : FuncData} {N ps : List Str} {k : Nat} {F : DF} (Fn : L2.Fun K x ql st f fd) (S : FnScope N ps (defScope st)) (len : ∀ ds Kk, F ds Kk → ds.length = ps.length)
    (hb : ∀ (cdv : Value) (A : Around) (outer : List Env) (s : Shared) (H : Hp) (E : XK) (ds : List PyData) (Kk : PyData → Prop), Room k (A.deeper (envOfC ql (defScope st) s.heap.objs.size f cdv)) → F ds Kk →
      ∃ t T, PSs (cxOf CX0 P w K mg base N ql (defScope st) f cdv A outer s H E).nox (defBody st) t ∧ RefS (pureC2 H) t T ∧ T { nx := fun _ => Kk .none, rt := fun d _ => Kk d } (startD N.length ds)) : FnOk P w K mg base CX0 (k + 1) f fd ps (spD F) := by
  refine Fn.ok S (fun vs H Q E h => ?_) fun cdv A outer s H vs Q E hr h => ?_
  · obtain ⟨ds, Kk, r, h, _⟩ := h
    rw [← rpL_len r]
    exact len ds Kk h
  · obtain ⟨ds, Kk, r, h, k⟩ := h
    obtain ⟨t, T, hp, rs, q⟩ := hb cdv A outer s H E ds Kk hr h
    refine ⟨t, hp, rs.go (DI.pure2 r) q (fun ρ' σ' H' q' _ I => k _ _ _ q' I.out2 Rp.non) (fun d ρ' w' σ' H' q' _ I r' => k _ _ _ q' I.out2 r') (fun _ _ _ z => z.elim) fun _ _ _ z => z.elim⟩
/-- a def that may raise -/
theorem okX {x ql : Str} {st : Stmt} {f : Addr} {fd : FuncData} {N ps : List Str} {k : Nat} {F : DFX} (Fn : L2.Fun K x ql st f fd) (S : FnScope N ps (defScope st)) (len : ∀ ds Kk Ex, F ds Kk Ex → ds.length = ps.length)
    (hb : ∀ (cdv : Value) (A : Around) (outer : List Env) (s : Shared) (H : Hp) (E : XK) (ds : List PyData) (Kk : PyData → Prop) (Ex : Addr → PyData → Prop), ExOk (pureC2 H) E Ex → Room k (A.deeper (envOfC ql (defScope st) s.heap.objs.size f cdv)) → F ds Kk Ex →
      ∃ t T, PSs (cxOf (L2.CX P w) P w K mg base N ql (defScope st) f cdv A outer s H E) (defBody st) t ∧ RefS (pureC2 H) t T ∧ T { nx := fun _ => Kk .none, rt := fun d _ => Kk d } (startD N.length ds)) : FnOk P w K mg base (L2.CX P w) (k + 1) f fd ps (spX F) := by
  refine Fn.okX S (fun vs H Q E h => ?_) fun cdv A outer s H vs Q E hr h => ?_
  · obtain ⟨ds, Kk, Ex, r, h, _⟩ := h
    rw [← rpL_len r]
    exact len ds Kk Ex h
  · obtain ⟨ds, Kk, Ex, r, h, k, kx⟩ := h
    obtain ⟨t, T, hp, rs, q⟩ := hb cdv A outer s H E ds Kk Ex ⟨fun I hx hd r => kx _ _ _ _ _ hx I.out2 hd r⟩ hr h
    refine ⟨t, hp, rs.go (DI.pure2 r) q (fun ρ' σ' H' q' _ I => k _ _ _ q' I.out2 Rp.non) (fun d ρ' w' σ' H' q' _ I r' => k _ _ _ q' I.out2 r') (fun _ _ _ z => z.elim) fun _ _ _ z => z.elim⟩
end
end Dw
end
section
set_option Elab.async false
set_option linter.all false
set_option maxRecDepth 100000
set_option maxHeartbeats 4000000
/-! Tg, part W: Dw: operations that take several kinds, a slot locked behind a statement, raise, the pot. -/
namespace Dw
open PySem PySem.Spec PyProof.Rows L2 Tg LamX
def RAdd : D2 := fun d e K => match d, e with
  | .int i, .int j => K (.int (i + j))
  | .str i, .str j => i.length + j.length ≤ 16777216 ∧ K (.str (i ++ j))
  | _, _ => False
def RLe : D2 := fun d e K => match d, e with
  | .int i, .int j => K (.bool (decide (i ≤ j)))
  | .str i, .str j => K (.bool (!decide (j.cps.toList < i.cps.toList)))
  | _, _ => False
def RInX (neg : Bool) : D2 := fun d e K => match e with
  | .str z => isS d fun x => ∃ c, x = ⟨#[c]⟩ ∧ K (.bool (if neg then !decide (c ∈ z.cps.toList) else decide (c ∈ z.cps.toList)))
  | .list xs => (flD d = true ∧ xs.all flD = true) ∧ K (.bool (if neg then !inF d xs else inF d xs))
  | .tuple xs => (flD d = true ∧ xs.all flD = true) ∧ K (.bool (if neg then !inF d xs else inF d xs))
  | _ => False
/-- xs + ys -/
def NCat : LL2 := fun d e K => isL d fun xs => isL e fun ys => xs.length + ys.length ≤ 16777216 ∧ K (xs ++ ys)
def RMulX : D2 := fun d e K => match d, e with
  | .int i, .int j => CMul i j ∧ K (.int (i * j))
  | .str x, .int j => (j = 0 ∨ j = 1) ∧ x.length ≤ 1000 ∧ K (.str (if j = 1 then x else ""))
  | _, _ => False
/-- xs[lo:hi] -/
def cutD (xs : List PyData) (lo hi : Option Int) : List PyData := (xs.drop (HT.sIx xs.length 0 lo)).take (HT.sIx xs.length xs.length hi - HT.sIx xs.length 0 lo)
theorem rpL_take {H : Hp} : ∀ {ds : List PyData} {xs : List V} (i : Nat), RpL H ds xs → RpL H (ds.take i) (xs.take i)
  | _, _, 0, _ => by simpa using RpL.nil
  | [], xs, i + 1, r => by simp only [RpL] at r; subst r; exact RpL.nil
  | d :: ds, xs, i + 1, r => by
    simp only [RpL] at r
    obtain ⟨x, r', rfl, h1, h2⟩ := r
    exact RpL.cons h1 (rpL_take i h2)
theorem rpL_drop {H : Hp} : ∀ {ds : List PyData} {xs : List V} (i : Nat), RpL H ds xs → RpL H (ds.drop i) (xs.drop i)
  | _, _, 0, r => by simpa using r
  | [], xs, i + 1, r => by simp only [RpL] at r; subst r; exact RpL.nil
  | d :: ds, xs, i + 1, r => by
    simp only [RpL] at r
    obtain ⟨x, r', rfl, h1, h2⟩ := r
    exact rpL_drop i h2
theorem rpL_app {H : Hp} : ∀ {ds es : List PyData} {xs ys : List V}, RpL H ds xs → RpL H es ys → RpL H (ds ++ es) (xs ++ ys)
  | [], es, xs, ys, r, s => by simp only [RpL] at r; subst r; exact s
  | d :: ds, es, xs, ys, r, s => by
    simp only [RpL] at r
    obtain ⟨x, r', rfl, h1, h2⟩ := r
    exact RpL.cons h1 (rpL_app h2 s)
def NSlL : PyData → Option Int → Option Int → (List PyData → Prop) → Prop := fun d lo hi K => isL d fun xs => K (cutD xs lo hi)
section
variable {X : Cx}
theorem dAddX : OpR X (binaryOp .Add) (rD RAdd) := OpR.of (OpR.or dAdd dAddS) fun x y H Q q => by
  obtain ⟨d, e, K, r1, r2, q, k⟩ := q
  unfold RAdd at q
  split at q
  · exact .inl ⟨_, _, K, r1, r2, q, k⟩
  · exact .inr ⟨_, _, K, r1, r2, q, k⟩
  · exact q.elim
theorem dLeX : OpR X (compareOp .LtE) (rD RLe) := OpR.of (OpR.or dLe dLeS) fun x y H Q q => by
  obtain ⟨d, e, K, r1, r2, q, k⟩ := q
  unfold RLe at q
  split at q
  · exact .inl ⟨_, _, K, r1, r2, q, k⟩
  · exact .inr ⟨_, _, K, r1, r2, q, k⟩
  · exact q.elim
theorem dInX : OpR X (compareOp .In) (rD (RInX false)) := OpR.of (OpR.or dInS dIn) fun x y H Q q => by
  obtain ⟨d, e, K, r1, r2, q, k⟩ := q
  unfold RInX at q
  split at q
  · obtain ⟨z, rfl, c, rfl, q1⟩ := isS_go q
    exact .inl ⟨_, _, K, r1, r2, ⟨c, rfl, q1⟩, k⟩
  · exact .inr ⟨_, _, K, r1, r2, ⟨q.1.1, q.1.2, q.2⟩, k⟩
  · exact .inr ⟨_, _, K, r1, r2, ⟨q.1.1, q.1.2, q.2⟩, k⟩
  · exact q.elim
theorem dNotInS : OpR X (compareOp .NotIn) (rD fun d e K => isS d fun x => isS e fun z => ∃ c, x = ⟨#[c]⟩ ∧ K (.bool (!decide (c ∈ z.cps.toList)))) := OpR.of op_notInS fun x y H Q q => by
  obtain ⟨d, e, K, r1, r2, q, k⟩ := q
  obtain ⟨i, rfl, q1⟩ := isS_go q
  obtain ⟨j, rfl, c, rfl, q2⟩ := isS_go q1
  exact ⟨c, j, rp_str r1, rp_str r2, k _ _ _ q2 (fun _ _ e => e) Rp.bl⟩
theorem dNotInX : OpR X (compareOp .NotIn) (rD (RInX true)) := OpR.of (OpR.or dNotInS dNotIn) fun x y H Q q => by
  obtain ⟨d, e, K, r1, r2, q, k⟩ := q
  unfold RInX at q
  split at q
  · obtain ⟨z, rfl, c, rfl, q1⟩ := isS_go q
    exact .inl ⟨_, _, K, r1, r2, ⟨c, rfl, q1⟩, k⟩
  · exact .inr ⟨_, _, K, r1, r2, ⟨q.1.1, q.1.2, q.2⟩, k⟩
  · exact .inr ⟨_, _, K, r1, r2, ⟨q.1.1, q.1.2, q.2⟩, k⟩
  · exact q.elim
theorem dSlL : SlR X (sN NSlL) := SlR.of sl_list fun x lo hi H Q q => by
  obtain ⟨d, K, r1, q, k⟩ := q
  obtain ⟨xs, rfl, q1⟩ := isL_go q
  obtain ⟨a, o, vs, rfl, ha, rl⟩ := rp_list r1
  refine ⟨a, vs, rfl, .inl (.inr ⟨o, ha⟩), fun p np => k _ _ _ q1 ⟨_, np, rfl, ?_⟩⟩
  unfold cutD cutV
  rw [rpL_len rl]
  exact rpL_take _ (rpL_drop _ rl)
theorem rp_listF {H : Hp} {a : Addr} {o : Obj} {vs : List V} (h : H a = some (.frz o (.lst vs))) : Rd H a (.lst vs) := .inr ⟨o, h⟩
/-- raise C(e) -/
theorem ps_raiseD {W : WX} {fI D C : Addr} {fd : FuncData} {x : Str} {e : Expr} {te : TE} {p pos pos' : Pos} (hc : X.calm = true) (tk : Takes X W) (EC : ErrC X.K fI D C) (T : IniT X.prog X.K X.mg fI D fd) (hr : Room 2 X.A) (hg : Gl X x) (hm : X.mg x = some (.ref C))
    (hb : Binds X.K fd ["self", "value"] []) (he : PE X e te) (hdb : (x == ("__debug__" : Str)) = false := by decide) (hs : starEach [e] X.env = (false, eval e X.env) :: starEach [] X.env := by rfl) :
    PS X (.Raise (some (.Call (.Name x p) [e] [] pos)) none pos') (tRaise W C te) := ps_raiseE hc tk EC T hr hg hm hb he hdb hs
/-- what a slot holds is locked behind a statement -/
def tFzS (i : Nat) (t : TS) : TS := fun D σ H => t { D with nx := fun σ' H' => ∃ p u, σ'[i]? = some (some (.ref p)) ∧ H' p = some u ∧ Mut (some u) ∧ ∀ o, D.nx σ' (upd H' p (.frz o u)) } σ H
theorem ps_fzS {i : Nat} {st : Stmt} {t : TS} (h : PS X st t) : PS X st (tFzS i t) := by
  refine ⟨fun pins s σ H D I q => ?_⟩
  refine wpAny_mono (h.run pins s σ H _ I q) (fun f s1 hs => ?_) fun _ _ z => z
  cases f with
  | next =>
    obtain ⟨σ1, H1, I1, p, u, e, hp, mu, q1⟩ := hs
    obtain ⟨o, I2⟩ := I1.lock hp mu
    exact ⟨σ1, _, I2, q1 o⟩
  | ret v => exact hs
  | brk => exact hs
  | cont => exact hs
end
def DFzS (i : Nat) (T : TDS) : TDS := fun DD ρ => T { DD with nx := fun ρ' => match ρ'[i]? with
  | some (some (.l xs)) => DD.nx (ρ'.set i (some (.d (.list xs))))
  | some (some (.m kvs)) => DD.nx (ρ'.set i (some (.d (.dict kvs))))
  | _ => False } ρ
section
variable {C : DC}
instance iFzS {i : Nat} {t : TS} {T : TDS} [r : RefS C t T] : RefS C (tFzS i t) (DFzS i T) := ⟨fun {D σ H ρ DD} I h n rt bk ct => by
  refine r.go I h (fun ρ1 σ1 H1 q1 k1 I1 => ?_) rt bk ct
  dsimp only at q1
  split at q1
  · rename_i xs e
    obtain ⟨w, h1, a, vs, rfl, h2, h3, h4, h5, h6⟩ := I1.at_ i _ e
    refine ⟨a, _, h1, h2, True.intro, fun o => ?_⟩
    have kp := kp_but h2 True.intro (But.upd (p := a) (H := H1) (o := .frz o (.lst vs)))
    have I2 := (I1.forget i).but h2 True.intro (But.upd (o := .frz o (.lst vs))) h4 h5 h6 (DI.own I1 e h1 rfl)
    have I3 := I2.tell (dv := .d (.list xs)) h1 (Rp.lst upd_same (RpL.keep kp _ _ h3)) fun z => nomatch z
    rw [set_set] at I3
    exact n _ _ _ q1 (k1.trans kp) I3
  · rename_i xs e
    obtain ⟨w, h1, a, vs, rfl, h2, h3, h4, h5, h6⟩ := I1.at_ i _ e
    refine ⟨a, _, h1, h2, True.intro, fun o => ?_⟩
    have kp := kp_but h2 True.intro (But.upd (p := a) (H := H1) (o := .frz o (.dK vs)))
    have I2 := (I1.forget i).but h2 True.intro (But.upd (o := .frz o (.dK vs))) h4 h5 h6 (DI.own I1 e h1 rfl)
    have I3 := I2.tell (dv := .d (.dict xs)) h1 (Rp.dct upd_same (RpD.keep kp _ _ h3)) fun z => nomatch z
    rw [set_set] at I3
    exact n _ _ _ q1 (k1.trans kp) I3
  · exact q1.elim⟩
/-- x op= e -/
def DAug (i : Nat) (R : D2) (T : TD) : TDS := fun DD ρ => match ρ[i]? with
  | some (some (.d x)) => T ρ fun d ρ1 => R x d fun z => DD.nx (ρ1.set i (some (.d z)))
  | _ => False
def ipD (R : D2) : TIp := rD R
instance iAug {i : Nat} {R : D2} {t : TE} {T : TD} [r : Ref C t T] : RefS C (tAug i t (ipD R)) (DAug i R T) := ⟨fun {D σ H ρ DD} I h n rt bk ct => by
  unfold DAug at h
  split at h
  · rename_i x e
    obtain ⟨w, h1, h2⟩ := I.at_ i _ e
    exact ⟨w, h1, r.go I h fun d ρ1 w1 H1 q1 k1 I1 r1 => ⟨x, d, _, Rp.keep k1 _ _ h2, r1, q1, fun z w2 H2 q2 s2 r2 => n _ _ _ q2 (k1.trans (Kp.same s2)) ((I1.same s2).setD r2)⟩⟩
  · exact h.elim⟩
end
section
variable {X : Cx}
theorem PIp.of {op : Operator} {r r' : TIp} (h : PIp X op r) (i : ∀ x y H Q, r' x y H Q → r x y H Q) : PIp X op r' := fun pins s σ H x y v u Q I rx ry q => h pins s σ H x y v u Q I rx ry (i x y H Q q)
theorem ipAdd : PIp X .Add (ipD (RInt fun i j => .int (i + j))) := PIp.of ip_add fun x y H Q q => by
  obtain ⟨d, e, K, r1, r2, q, k⟩ := q
  obtain ⟨i, rfl, q1⟩ := isI_go q
  obtain ⟨j, rfl, q2⟩ := isI_go q1
  exact ⟨i, j, rp_int r1, rp_int r2, k _ _ _ q2 (fun _ _ e => e) Rp.int⟩
end
end Dw
end
section
set_option Elab.async false
set_option linter.all false
set_option maxRecDepth 100000
set_option maxHeartbeats 4000000
/-! Tg, part X: Dw: defs that draw from a pot. -/
namespace Dw
open PySem PySem.Spec PyProof.Rows L2 Tg LamX
abbrev DP := Int → List PyData → (PyData → Int → Prop) → Prop
def spP (F : DP) : Sp := fun vs H Q _ => ∃ p c ds vs' K, vs = .ref p :: vs' ∧ PotAt H p c ∧ RpL H ds vs' ∧ F c ds K ∧ ∀ d c' w H', K d c' → But p H H' → PotAt H' p c' → Rp H' d w → Q w H'
theorem FnOk.sub {P : Program} {w : World} {K : PySem.W.Frag} {mg : Str → Option Value} {base : Heap} {CX : CXT} {k : Nat} {f : Addr} {fd : FuncData} {ps : List Str} {sp sp' : Sp} (F : FnOk P w K mg base CX k f fd ps sp) (h : ∀ vs H Q E, sp' vs H Q E → sp vs H Q E) : FnOk P w K mg base CX k f fd ps sp' :=
  ⟨fun vs H Q E q => F.len vs H Q E (h _ _ _ _ q), fun A o s H ag us vs Q E r e bd rel q => F.run A o s H ag us vs Q E r e bd rel (h _ _ _ _ q)⟩
def DCallP (i : Nat) (F : DP) (TA : TDA) : TD := fun ρ K => (∃ p c, ρ[i]? = some (some (.pot p c))) ∧ TA ρ fun ds ρ1 => match ρ1[i]? with
  | some (some (.pot p c)) => F c ds fun d c' => K d (ρ1.set i (some (.pot p c')))
  | _ => False
section
variable {C : DC}
theorem PotAt.ld {H : Hp} {p : Addr} {c : Int} (h : PotAt H p c) : ∃ xs, H p = some (.lst xs) := let ⟨_, _, _, e, _⟩ := h.ex; ⟨_, e⟩
theorem DI.pot {ρ : DSt} {σ : L2.St} {H H' : Hp} {i : Nat} {p : Addr} {c c' : Int} (I : DI C ρ σ H) (e : ρ[i]? = some (some (.pot p c))) (b : But p H H') (hp : PotAt H' p c') : DI C (ρ.set i (some (.pot p c'))) σ H' := by
  obtain ⟨w, hw, e', hpo, hs, nn⟩ := I.at_ i _ e
  subst e'
  obtain ⟨xs, hx⟩ := hpo.ld
  have ap := DI.own I e hw rfl
  have I1 : DI C (ρ.set i none) σ H' := by
    have I0 := I.forget i
    refine ⟨I0.len, fun j dv ej => ?_, I0.sep, fun d o n ed => ?_, fun d hd => ?_, fun d hd => ?_, C.jb _ _ _ _ hx True.intro nn b I.j⟩
    · obtain ⟨w, h1, h2⟩ := I0.at_ j dv ej
      exact ⟨w, h1, h2.but hx True.intro b fun hm z => ap j dv ej hm (by rw [h1, z])⟩
    · have dp : d ≠ p := fun z => by
        subst z
        rcases hs with hs | hs
        · exact n hs
        · rw [hs] at ed; cases ed
      rcases I.fr d o n ed with h | ⟨ps, ps', h1, h2⟩
      · exact .inl (b _ _ dp h)
      · exact .inr ⟨ps, ps', h1, b _ _ dp h2⟩
    · by_cases dp : d = p
      · subst dp
        exact hp.ld
      · obtain ⟨ys, h⟩ := I.sx d hd
        exact ⟨ys, b _ _ dp h⟩
    · obtain ⟨ys, h⟩ := I.nx d hd
      exact ⟨ys, b _ _ (fun z => nn (z ▸ hd)) h⟩
  have I2 := I1.tell (i := i) (dv := .pot p c') hw ⟨rfl, hp, hs, nn⟩ fun _ j y ne ej my => ap j y ej my
  rw [set_set] at I2
  exact I2
instance iCallP {i : Nat} {F : DP} {E : XK} {ta : TA} {TA : TDA} [r : RefA C ta TA] : Ref C (tCall (spP F) [] E (tCons (tVar i) ta)) (DCallP i F TA) := ⟨fun {σ H Q ρ K} I h k => by
  obtain ⟨⟨p0, c0, e0⟩, h⟩ := h
  obtain ⟨w, hw, rfl, _⟩ := I.at_ i _ e0
  refine ⟨_, hw, r.go I h fun ds ρ1 ws H1 q1 k1 I1 r1 => ?_⟩
  split at q1
  · rename_i p c e
    obtain ⟨w', hw', e', hp, hs, nn⟩ := I1.at_ i _ e
    subst e'
    rw [hw] at hw'
    cases hw'
    obtain ⟨xs, hx⟩ := hp.ld
    exact ⟨p0, c, ds, ws, _, by rw [List.append_nil], hp, r1, q1, fun d c' w H2 q2 b2 hp2 r2 => k _ _ _ _ q2 (k1.trans (kp_but hx True.intro b2)) (I1.pot e b2 hp2) r2⟩
  · exact q1.elim⟩
end
/-! ### a def's body -/
def potC (H : Hp) (p : Addr) : DC := ⟨H, fun b => b = p, fun _ => False, fun H' => ∀ b ps, H b = some (.tbl ps) → H' b = some (.tbl ps), fun H1 H2 s j b ps e => s _ _ (j b ps e), fun H1 H2 q u hq ld _ but j b ps e => but _ _ (fun z => by
  have h := j b ps e
  rw [z, hq] at h
  cases h
  exact ld) (j b ps e), fun H1 p o u hp _ _ j b ps e => by
  have h := j b ps e
  rw [upd_ne (fun z => by rw [z, hp] at h; cases h)]
  exact h⟩
def startP (n : Nat) (p : Addr) (c : Int) (ds : List PyData) : DSt := some (.pot p c) :: startD (n - 1) ds
theorem DI.startP {C : DC} {H : Hp} {N : List Str} {c : Int} {p : Addr} {ds : List PyData} {vs : List V} (hN : 1 ≤ N.length) (r : RpL H ds vs) (hp : PotAt H p c) (hs : C.S p) (nn : ¬ C.N p) (fr : Fr C.S C.H0 H) (sx : ∀ b, C.S b → ∃ xs, H b = some (.lst xs)) (nx : ∀ b, C.N b → ∃ o, H b = some o) (j : C.J H) : DI C (startP N.length p c ds) (L2.start N (.ref p :: vs)) H := by
  have hl := rpL_len r
  have e0 : L2.start N (.ref p :: vs) = some (.ref p) :: (vs.map some ++ List.replicate (N.length - 1 - vs.length) none) := by
    unfold L2.start
    rw [List.map_cons, List.cons_append, List.length_cons, show N.length - (vs.length + 1) = N.length - 1 - vs.length by omega]
  rw [e0]
  refine ⟨by simp [Dw.startP, startD, hl], fun i dv e => ?_, fun i j x y w hi hj mx my => ?_, fr, sx, nx, j⟩
  · cases i with
    | zero =>
      simp only [Dw.startP, List.getElem?_cons_zero, Option.some.injEq] at e
      subst e
      exact ⟨_, rfl, rfl, hp, .inl hs, nn⟩
    | succ i =>
      simp only [Dw.startP, List.getElem?_cons_succ] at e
      obtain ⟨d, h1, rfl⟩ := start_get e
      obtain ⟨x, h2, h3⟩ := rpL_at r h1
      refine ⟨x, ?_, h3⟩
      have l : i < vs.length := by
        by_cases l : i < vs.length
        · exact l
        · rw [List.getElem?_eq_none (by omega)] at h2; cases h2
      rw [List.getElem?_cons_succ, List.getElem?_append_left (by simpa using l), List.getElem?_map, h2]
      rfl
  · have z : ∀ {i : Nat} {x : DV}, (Dw.startP N.length p c ds)[i]? = some (some x) → x.mt = true → i = 0 := fun {i x} h m => by
      cases i with
      | zero => rfl
      | succ i =>
        simp only [Dw.startP, List.getElem?_cons_succ] at h
        obtain ⟨d, _, rfl⟩ := start_get h
        cases m
    intro _ _
    rw [z hi mx, z hj my]
section
variable {P : Program} {w : World} {K : PySem.W.Frag} {mg : Str → Option Value} {base : Heap}
/-- a def whose first parameter is the pot -/
theorem okP {x ql : Str} {st : Stmt} {f : Addr} {fd : FuncData} {N ps : List Str} {k : Nat} {F : DP} (Fn : L2.Fun K x ql st f fd) (S : FnScope N ps (defScope st)) (hN : 1 ≤ N.length) (len : ∀ c ds Kk, F c ds Kk → ds.length + 1 = ps.length)
    (hb : ∀ (cdv : Value) (A : Around) (outer : List Env) (s : Shared) (H : Hp) (E : XK) (p : Addr) (c : Int) (ds : List PyData) (Kk : PyData → Int → Prop), Room k (A.deeper (envOfC ql (defScope st) s.heap.objs.size f cdv)) → F c ds Kk →
      ∃ t T, PSs (cxOf CX0 P w K mg base N ql (defScope st) f cdv A outer s H E).nox (defBody st) t ∧ RefS (potC H p) t T ∧ T { nx := fun ρ => ∃ c', ρ[0]? = some (some (.pot p c')) ∧ Kk .none c', rt := fun d ρ => ∃ c', ρ[0]? = some (some (.pot p c')) ∧ Kk d c' } (startP N.length p c ds)) :
    FnOk P w K mg base CX0 (k + 1) f fd ps (spP F) := by
  refine Fn.ok S (fun vs H Q E h => ?_) fun cdv A outer s H vs Q E hr h => ?_
  · obtain ⟨p, c, ds, vs', Kk, rfl, _, r, h, _⟩ := h
    rw [List.length_cons, ← rpL_len r]
    exact len c ds Kk h
  · obtain ⟨p, c, ds, vs', Kk, rfl, hp, r, h, k⟩ := h
    obtain ⟨t, T, hps, rs, q⟩ := hb cdv A outer s H E p c ds Kk hr h
    have I0 : DI (potC H p) (startP N.length p c ds) (L2.start N (.ref p :: vs')) H := DI.startP hN r hp rfl (fun z => z) (fun b o _ e => .inl e) (fun b hb => by rw [show b = p from hb]; exact hp.ld) (fun b hb => hb.elim) (fun _ _ e => e)
    have out : ∀ {ρ' : DSt} {σ' : L2.St} {H' : Hp} {c' : Int}, DI (potC H p) ρ' σ' H' → ρ'[0]? = some (some (.pot p c')) → But p H H' ∧ PotAt H' p c' := fun {ρ' σ' H' c'} I e => by
      obtain ⟨w, hw, rfl, hp', _⟩ := I.at_ 0 _ e
      refine ⟨fun b o nb eb => ?_, hp'⟩
      rcases I.fr b o nb eb with h | ⟨ps, _, rfl, _⟩
      · exact h
      · exact I.j b ps eb
    refine ⟨t, hps, rs.go I0 q (fun ρ' σ' H' ⟨c', e, q'⟩ _ I => k _ _ _ _ q' (out I e).1 (out I e).2 Rp.non) (fun d ρ' w' σ' H' ⟨c', e, q'⟩ _ I r' => k _ _ _ _ q' (out I e).1 (out I e).2 r') (fun _ _ _ z => z.elim) fun _ _ _ z => z.elim⟩
end
end Dw
end
section
set_option Elab.async false
set_option linter.all false
set_option maxRecDepth 100000
set_option maxHeartbeats 4000000
/-! Tg, part Y: Dw: comprehensions, by what they give. -/
namespace Dw
open PySem PySem.Spec PyProof.Rows L2 Tg LamX
def DYes : TDT := fun ρ K => K true ρ
instance iYes {C : DC} : RefT C tYes DYes := ⟨fun {σ H Q ρ K} I h k => k true ρ H h (Kp.refl _) I⟩
theorem take_succ {α : Type} {xs : List α} {i : Nat} {x : α} (h : xs[i]? = some x) : xs.take (i + 1) = xs.take i ++ [x] := by
  rw [List.take_add_one, h]
  rfl
/-- [f x for x in items] -/
theorem lc_map {G : TDG} {TE : TD} {vs ts : List Nat} {items : List PyData} {ρ1 : DSt} {K : DV → DSt → Prop} (f : PyData → PyData)
    (hs : ∀ (i : Nat) x, items[i]? = some x → ∀ Q : PyData → DSt → Prop, (∀ ρ4, wipeD ρ4 vs = wipeD ρ1 vs → Q (f x) ρ4) → G x (wipeD ρ1 vs) fun ρ2 => TE ρ2 Q) (hK : K (.l (items.map f)) (wipeD ρ1 vs)) (hl : items.length ≤ 100000) (hts : ts.all (vs.contains ·) = true := by rfl) : LcB items G ts DYes TE vs ρ1 K := by
  refine ⟨hl, hts, fun i acc ρ => acc = (items.take i).map f ∧ ρ = wipeD ρ1 vs, ⟨rfl, rfl⟩, ?_, ?_⟩
  · rintro i x acc ρ hx ⟨rfl, rfl⟩
    exact hs i x hx _ fun ρ4 e => ⟨by rw [take_succ hx, List.map_append]; rfl, e⟩
  · rintro acc ρ ⟨rfl, rfl⟩
    rw [List.take_length]
    exact hK
/-- [f x for x in items if p x] -/
theorem lc_filter {G : TDG} {TT : TDT} {TE : TD} {vs ts : List Nat} {items : List PyData} {ρ1 : DSt} {K : DV → DSt → Prop} (f : PyData → PyData) (p : PyData → Bool)
    (hs : ∀ (i : Nat) x, items[i]? = some x → ∀ (Q : PyData → DSt → Prop) (Qn : DSt → Prop), (p x = true → ∀ ρ4, wipeD ρ4 vs = wipeD ρ1 vs → Q (f x) ρ4) → (p x = false → ∀ ρ4, wipeD ρ4 vs = wipeD ρ1 vs → Qn ρ4) → G x (wipeD ρ1 vs) fun ρ2 => TT ρ2 fun b ρ3 => if b = true then TE ρ3 Q else Qn ρ3) (hK : K (.l ((items.filter p).map f)) (wipeD ρ1 vs)) (hl : items.length ≤ 100000) (hts : ts.all (vs.contains ·) = true := by rfl) : LcB items G ts TT TE vs ρ1 K := by
  refine ⟨hl, hts, fun i acc ρ => acc = ((items.take i).filter p).map f ∧ ρ = wipeD ρ1 vs, ⟨rfl, rfl⟩, ?_, ?_⟩
  · rintro i x acc ρ hx ⟨rfl, rfl⟩
    refine hs i x hx _ _ (fun hp ρ4 e => ⟨?_, e⟩) fun hp ρ4 e => ⟨?_, e⟩
    · rw [take_succ hx, List.filter_append, List.map_append, List.filter_cons_of_pos hp]
      rfl
    · rw [take_succ hx, List.filter_append, List.map_append, List.filter_cons_of_neg (by rw [hp]; decide)]
      simp
  · rintro acc ρ ⟨rfl, rfl⟩
    rw [List.take_length]
    exact hK
/-- what a comprehension draws: A ahead of turn i, R of what is drawn -/
theorem lc_draw {G : TDG} {TE : TD} {vs ts : List Nat} {items : List PyData} {ρ1 : DSt} {K : DV → DSt → Prop} (A : Nat → DSt → Prop) (R : PyData → Prop) (h0 : A 0 (wipeD ρ1 vs))
    (hs : ∀ (i : Nat) x ρ, items[i]? = some x → A i ρ → ∀ Q : PyData → DSt → Prop, (∀ d ρ4, R d → A (i + 1) (wipeD ρ4 vs) → Q d ρ4) → G x ρ fun ρ2 => TE ρ2 Q) (hK : ∀ ds ρ, ds.length = items.length → (∀ d ∈ ds, R d) → A items.length ρ → K (.l ds) ρ) (hl : items.length ≤ 100000) (hts : ts.all (vs.contains ·) = true := by rfl) : LcB items G ts DYes TE vs ρ1 K := by
  refine ⟨hl, hts, fun i acc ρ => acc.length = i ∧ (∀ d ∈ acc, R d) ∧ A i ρ, ⟨rfl, fun d h => by simp at h, h0⟩, ?_, ?_⟩
  · rintro i x acc ρ hx ⟨hl, hr, ha⟩
    refine hs i x ρ hx ha _ fun d ρ4 rd a4 => ⟨by rw [List.length_append, hl]; rfl, fun e he => ?_, a4⟩
    rcases List.mem_append.mp he with he | he
    · exact hr e he
    · cases List.mem_singleton.mp he
      exact rd
  · rintro acc ρ ⟨hl, hr, ha⟩
    exact hK acc ρ hl hr ha
end Dw
end
section
set_option Elab.async false
set_option linter.all false
set_option maxRecDepth 100000
set_option maxHeartbeats 4000000
/-! Tg, part Z: Dw: dicts. -/
namespace Dw
open PySem PySem.Spec PyProof.Rows L2 Tg LamX
/-- pairs with texts as keys, as data -/
def strP (more : List (Str × PyData)) : List (PyData × PyData) := more.map fun p => (.str p.1, p.2)
def putP (kvs : List (Str × PyData)) (x : Str) (d : PyData) : List (Str × PyData) := if (kvs.any fun p => decide (p.1 = x)) = true then kvs.map (fun p => if p.1 = x then (p.1, d) else p) else kvs ++ [(x, d)]
def mergeP (kvs more : List (Str × PyData)) : List (Str × PyData) := more.foldl (fun acc p => putP acc p.1 p.2) kvs
def lookP (x : Str) : List (Str × PyData) → Option PyData
  | [] => none
  | (y, d) :: r => if y = x then some d else lookP x r
def isM (d : PyData) (k : List (Str × PyData) → Prop) : Prop := ∃ kvs, d = .dict (strP kvs) ∧ k kvs
theorem rpP {H : Hp} : ∀ {kvs : List (Str × PyData)} {ks : List (Key × V)}, RpD H (strP kvs) ks → Paired (fun (p : Str × PyData) (q : Key × V) => q.1 = .inr p.1 ∧ Rp H p.2 q.2) kvs ks
  | [], ks, r => by
    simp only [strP, List.map_nil, RpD] at r
    subst r
    exact .nil
  | (x, d) :: kvs, ks, r => by
    simp only [strP, List.map_cons, RpD] at r
    obtain ⟨ky, v, l, rfl, e, r1, r2⟩ := r
    refine .cons ⟨?_, r1⟩ (rpP r2)
    cases ky with
    | inl i => cases e
    | inr y => cases e; rfl
theorem rpP_of {H : Hp} : ∀ {kvs : List (Str × PyData)} {ks : List (Key × V)}, Paired (fun (p : Str × PyData) (q : Key × V) => q.1 = .inr p.1 ∧ Rp H p.2 q.2) kvs ks → RpD H (strP kvs) ks
  | [], _, .nil => RpD.nil
  | (x, d) :: kvs, (k, v) :: ks, .cons h t => by
    obtain ⟨e, r⟩ := h
    simp only at e r
    subst e
    exact RpD.cons (k := .inr x) r (rpP_of t)
theorem pair_any {H : Hp} {x : Str} : ∀ {kvs : List (Str × PyData)} {ks : List (Key × V)}, Paired (fun (p : Str × PyData) (q : Key × V) => q.1 = .inr p.1 ∧ Rp H p.2 q.2) kvs ks → (kvs.any fun p => decide (p.1 = x)) = (ks.any fun kv => decide (kv.1 = .inr x))
  | _, _, .nil => rfl
  | (y, d) :: kvs, (k, v) :: ks, .cons h t => by
    obtain ⟨e, _⟩ := h
    simp only at e
    subst e
    simp only [List.any_cons, pair_any t, Sum.inr.injEq]
theorem pair_map {H : Hp} {x : Str} {d : PyData} {v : V} (rd : Rp H d v) : ∀ {kvs : List (Str × PyData)} {ks : List (Key × V)}, Paired (fun (p : Str × PyData) (q : Key × V) => q.1 = .inr p.1 ∧ Rp H p.2 q.2) kvs ks →
    Paired (fun (p : Str × PyData) (q : Key × V) => q.1 = .inr p.1 ∧ Rp H p.2 q.2) (kvs.map (fun p => if p.1 = x then (p.1, d) else p)) (ks.map (fun kv => if kv.1 = .inr x then (kv.1, v) else kv))
  | _, _, .nil => .nil
  | (y, e) :: kvs, (k, u) :: ks, .cons h t => by
    obtain ⟨e1, r1⟩ := h
    simp only at e1 r1
    subst e1
    refine .cons ?_ (pair_map rd t)
    by_cases q : y = x
    · simp only [q, if_true]
      exact ⟨trivial, rd⟩
    · simp only [q, if_false, Sum.inr.injEq]
      exact ⟨trivial, r1⟩
theorem pair_app {α β : Type} {F : α → β → Prop} : ∀ {xs us : List α} {ys vs : List β}, Paired F xs ys → Paired F us vs → Paired F (xs ++ us) (ys ++ vs)
  | _, _, _, _, .nil, k => k
  | _, _, _, _, .cons h t, k => .cons h (pair_app t k)
theorem pair_put {H : Hp} {kvs : List (Str × PyData)} {ks : List (Key × V)} {x : Str} {d : PyData} {v : V} (r : Paired (fun (p : Str × PyData) (q : Key × V) => q.1 = .inr p.1 ∧ Rp H p.2 q.2) kvs ks) (rd : Rp H d v) :
    Paired (fun (p : Str × PyData) (q : Key × V) => q.1 = .inr p.1 ∧ Rp H p.2 q.2) (putP kvs x d) (putK ks (.inr x) v) := by
  unfold putP putK
  rw [pair_any (x := x) r]
  split
  · exact pair_map rd r
  · exact pair_app r (.cons ⟨rfl, rd⟩ .nil)
theorem pair_merge {H : Hp} : ∀ {more kvs : List (Str × PyData)} {ks ms : List (Key × V)}, Paired (fun (p : Str × PyData) (q : Key × V) => q.1 = .inr p.1 ∧ Rp H p.2 q.2) kvs ks → Paired (fun (p : Str × PyData) (q : Key × V) => q.1 = .inr p.1 ∧ Rp H p.2 q.2) more ms →
    Paired (fun (p : Str × PyData) (q : Key × V) => q.1 = .inr p.1 ∧ Rp H p.2 q.2) (mergeP kvs more) (mergeK ks ms)
  | _, _, _, _, r, .nil => r
  | (x, d) :: more, kvs, ks, (k, v) :: ms, r, .cons h t => by
    obtain ⟨e1, r1⟩ := h
    simp only at e1 r1
    subst e1
    exact pair_merge (kvs := putP kvs x d) (ks := putK ks (.inr x) v) (pair_put r r1) t
theorem pair_look {H : Hp} {x : Str} {d : PyData} : ∀ {kvs : List (Str × PyData)} {ks : List (Key × V)}, Paired (fun (p : Str × PyData) (q : Key × V) => q.1 = .inr p.1 ∧ Rp H p.2 q.2) kvs ks → lookP x kvs = some d → ∃ v, valV ks (.inr x) = some v ∧ Rp H d v
  | (y, e) :: kvs, (k, u) :: ks, .cons h t, q => by
    obtain ⟨e1, r1⟩ := h
    simp only at e1 r1
    subst e1
    unfold lookP at q
    by_cases z : y = x
    · rw [if_pos z] at q
      cases q
      exact ⟨u, by simp [valV, z], r1⟩
    · rw [if_neg z] at q
      obtain ⟨v, h1, h2⟩ := pair_look t q
      exact ⟨v, by simpa [valV, z] using h1, h2⟩
theorem pair_lookN {H : Hp} {x : Str} : ∀ {kvs : List (Str × PyData)} {ks : List (Key × V)}, Paired (fun (p : Str × PyData) (q : Key × V) => q.1 = .inr p.1 ∧ Rp H p.2 q.2) kvs ks → lookP x kvs = none → valV ks (.inr x) = none
  | _, _, .nil, _ => rfl
  | (y, e) :: kvs, (k, u) :: ks, .cons h t, q => by
    obtain ⟨e1, r1⟩ := h
    simp only at e1 r1
    subst e1
    unfold lookP at q
    by_cases z : y = x
    · rw [if_pos z] at q
      cases q
    · rw [if_neg z] at q
      simpa [valV, z] using pair_lookN t q
theorem pair_keys {H : Hp} : ∀ {kvs : List (Str × PyData)} {ks : List (Key × V)}, Paired (fun (p : Str × PyData) (q : Key × V) => q.1 = .inr p.1 ∧ Rp H p.2 q.2) kvs ks → ks.map (·.1) = (kvs.map (·.1)).map Sum.inr
  | _, _, .nil => rfl
  | (y, e) :: kvs, (k, u) :: ks, .cons h t => by
    obtain ⟨e1, r1⟩ := h
    simp only at e1
    subst e1
    rw [List.map_cons, List.map_cons, List.map_cons, pair_keys t]
theorem rp_dict {H : Hp} {kvs : List (Str × PyData)} {w : V} (r : Rp H (.dict (strP kvs)) w) : ∃ a o ks, w = .ref a ∧ H a = some (.frz o (.dK ks)) ∧ Paired (fun (p : Str × PyData) (q : Key × V) => q.1 = .inr p.1 ∧ Rp H p.2 q.2) kvs ks := by
  simp only [Rp] at r
  rcases r with ⟨a, o, ks, e, h, rl⟩ | ⟨e, _⟩
  · exact ⟨a, o, ks, e, h, rpP rl⟩
  · exfalso
    cases kvs with
    | nil => cases e
    | cons p r => simp [strP] at e
/-! ### d[x], x in d -/
def DDGet (T U : TD) : TD := fun ρ K => T ρ fun d ρ1 => U ρ1 fun e ρ2 => isM d fun kvs => isS e fun x => ∃ v, lookP x kvs = some v ∧ K v ρ2
def DDIn (neg : Bool) (U T : TD) : TD := fun ρ K => U ρ fun e ρ1 => T ρ1 fun d ρ2 => isM d fun kvs => isS e fun x => K (.bool (if neg then !(lookP x kvs).isSome else (lookP x kvs).isSome)) ρ2
section
variable {C : DC}
instance iDGet {t u : TE} {T U : TD} [r : Ref C t T] [s : Ref C u U] : Ref C (tDGet t u) (DDGet T U) := ⟨fun {σ H Q ρ K} I h k =>
  r.go I h fun d ρ1 w H1 q1 k1 I1 r1 => s.go I1 q1 fun e ρ2 w2 H2 q2 k2 I2 r2 => by
    obtain ⟨kvs, rfl, q3⟩ := q2
    obtain ⟨x, rfl, v, hv, q4⟩ := isS_go q3
    obtain ⟨a, o, ks, rfl, ha, pr⟩ := rp_dict (r1.keep k2)
    obtain ⟨u, h1, h2⟩ := pair_look pr hv
    exact ⟨a, u, rfl, .inl ⟨ks, .inr x, .inr ⟨o, ha⟩, rp_str r2, h1.symm⟩, k _ _ _ _ q4 (k1.trans k2) I2 h2⟩⟩
theorem din_go {t u : TE} {T U : TD} [r : Ref C t T] [s : Ref C u U] {σ : L2.St} {H : Hp} {Q : VK} {ρ : DSt} {K : PyData → DSt → Prop} {neg : Bool} (I : DI C ρ σ H) (h : DDIn neg U T ρ K) (k : ∀ d ρ' w H', K d ρ' → Kp H H' → DI C ρ' σ H' → Rp H' d w → Q w H') :
    u σ H fun y H1 => t σ H1 fun x H2 => ∃ a o, x = .ref a ∧ DGet H2 a y o ∧ Q (.bl (if neg then !o.isSome else o.isSome)) H2 :=
  s.go I h fun e ρ1 w H1 q1 k1 I1 r1 => r.go I1 q1 fun d ρ2 w2 H2 q2 k2 I2 r2 => by
    obtain ⟨kvs, rfl, q3⟩ := q2
    obtain ⟨x, rfl, q4⟩ := isS_go q3
    obtain ⟨a, o, ks, rfl, ha, pr⟩ := rp_dict r2
    have hv : (valV ks (.inr x)).isSome = (lookP x kvs).isSome := by
      cases q : lookP x kvs with
      | none => rw [pair_lookN pr q]; rfl
      | some v =>
        obtain ⟨u, h1, _⟩ := pair_look pr q
        rw [h1]
        rfl
    exact ⟨a, valV ks (.inr x), rfl, .inl ⟨ks, .inr x, .inr ⟨o, ha⟩, rp_str (r1.keep k2), rfl⟩, k _ _ _ _ q4 (k1.trans k2) I2 (by rw [hv]; exact Rp.bl)⟩
instance iDIn {t u : TE} {T U : TD} [r : Ref C t T] [s : Ref C u U] : Ref C (tDIn u t) (DDIn false U T) := ⟨fun I h k => din_go I h k⟩
instance iDNotIn {t u : TE} {T U : TD} [r : Ref C t T] [s : Ref C u U] : Ref C (tDNotIn u t) (DDIn true U T) := ⟨fun I h k => din_go I h k⟩
end
/-! ### sorted(d), list(d), dict(pairs) -/
def NSortedD : LL := fun ds K => on1 ds fun d => isM d fun kvs => kvs.length < 64 ∧ ∀ ys : List Str, ys.Perm (kvs.map (·.1)) → sortedS ys = true → K (ys.map .str)
def NListD : LL := fun ds K => on1 ds fun d => isM d fun kvs => K (kvs.map fun p => .str p.1)
def cM (R : List PyData → (List (PyData × PyData) → Prop) → Prop) : List V → Hp → VK → Prop := fun xs H Q => ∃ ds K, RpL H ds xs ∧ R ds K ∧ ∀ z p H', K z → NewM H z p H' → Q (.ref p) H'
def pairsP (kvs : List (Str × PyData)) : List PyData := kvs.map fun p => .tuple [.str p.1, p.2]
def MDict : List PyData → (List (PyData × PyData) → Prop) → Prop := fun ds K => on1 ds fun d => isL d fun xs => ∃ kvs, xs = pairsP kvs ∧ K (strP (mergeP [] kvs))
theorem pairs_go {Kf : PySem.W.Frag} {H : Hp} : ∀ {kvs : List (Str × PyData)} {vs : List V}, RpL H (pairsP kvs) vs → ∃ (ps : List Addr) (ks : List (Key × V)), vs = ps.map V.ref ∧ Paired (fun p kv => SqT Kf H p [kV kv.1, kv.2]) ps ks ∧ Paired (fun (p : Str × PyData) (q : Key × V) => q.1 = .inr p.1 ∧ Rp H p.2 q.2) kvs ks
  | [], vs, r => by
    simp only [pairsP, List.map_nil, RpL] at r
    subst r
    exact ⟨[], [], rfl, .nil, .nil⟩
  | (x, d) :: kvs, vs, r => by
    simp only [pairsP, List.map_cons, RpL] at r
    obtain ⟨y, l, rfl, r1, r2⟩ := r
    obtain ⟨a, ws, rfl, ha, rl⟩ := rp_tup r1
    obtain ⟨u1, u2, rfl, h1, h2⟩ := rpL2 rl
    cases rp_str h1
    obtain ⟨ps, ks, e, p1, p2⟩ := pairs_go (Kf := Kf) r2
    exact ⟨a :: ps, (.inr x, u2) :: ks, by rw [e]; rfl, .cons (SqT.of ha) p1, .cons ⟨rfl, h2⟩ p2⟩
section
variable {X : Cx}
theorem dSortedD (hc : X.calm = true) : CallR X (.builtin "sorted") (cN NSortedD) := CallR.of (call_sortedD hc) fun x H Q q => by
  obtain ⟨ds, K, r, q, k⟩ := q
  obtain ⟨d, rfl, kvs, rfl, h64, q1⟩ := on1_go q
  obtain ⟨x, rfl, r1⟩ := rpL1 r
  obtain ⟨a, o, ks, rfl, ha, pr⟩ := rp_dict r1
  exact ⟨a, ks, kvs.map (·.1), rfl, .inr ⟨o, ha⟩, pair_keys pr, by rw [List.length_map]; exact h64, fun ys p pm so np => k _ _ _ (q1 ys pm so) ⟨_, np, rfl, rpL_strs_of⟩⟩
theorem dListD (hc : X.calm = true) : CallR X (.type "list") (cN NListD) := CallR.of (call_listD hc) fun x H Q q => by
  obtain ⟨ds, K, r, q, k⟩ := q
  obtain ⟨d, rfl, kvs, rfl, q1⟩ := on1_go q
  obtain ⟨x, rfl, r1⟩ := rpL1 r
  obtain ⟨a, o, ks, rfl, ha, pr⟩ := rp_dict r1
  refine ⟨a, ks, rfl, .inr ⟨o, ha⟩, fun p np => k _ _ _ q1 ⟨_, np, rfl, ?_⟩⟩
  have e := pair_keys pr
  have e2 : ks.map (fun kv => kV kv.1) = (kvs.map (·.1)).map V.str := by
    have := congrArg (List.map kV) e
    rw [List.map_map, List.map_map] at this
    exact this
  rw [e2, show (kvs.map fun p => PyData.str p.1) = (kvs.map (·.1)).map PyData.str by rw [List.map_map]; rfl]
  exact rpL_strs_of
theorem dDictP (hc : X.calm = true) : CallR X (.type "dict") (cM MDict) := CallR.of (call_dictP hc) fun x H Q q => by
  obtain ⟨ds, K, r, q, k⟩ := q
  obtain ⟨d, rfl, q1⟩ := on1_go q
  obtain ⟨xs, rfl, kvs, rfl, q2⟩ := isL_go q1
  obtain ⟨x, rfl, r1⟩ := rpL1 r
  obtain ⟨a, o, vs, rfl, ha, rl⟩ := rp_list r1
  obtain ⟨ps, ks, rfl, p1, p2⟩ := pairs_go (Kf := X.K) rl
  exact ⟨a, ps, ks, rfl, .inl (.inr ⟨o, ha⟩), p1, fun p np => k _ _ _ q2 ⟨_, np, rfl, rpP_of (pair_merge .nil p2)⟩⟩
end
def DCBM (R : List PyData → (List (PyData × PyData) → Prop) → Prop) (TA : TDA) : TN := fun ρ K => TA ρ fun ds ρ1 => R ds fun z => K (.m z) ρ1
section
variable {C : DC}
instance iCBM {R : List PyData → (List (PyData × PyData) → Prop) → Prop} {ta : TA} {TA : TDA} [ra : RefA C ta TA] : RefN C (tCB (cM R) ta) (DCBM R TA) := ⟨fun {σ H Q ρ K} I h k =>
  ra.go I h fun ds ρ1 ws H1 q1 k1 I1 r1 => ⟨ds, _, r1, q1, fun z p H3 q3 n3 => by
    obtain ⟨I3, k3, N3⟩ := I1.newM n3
    exact k _ _ _ _ q3 (k1.trans k3) I3 N3⟩⟩
/-! ### for k, v in d.items() -/
def IItems (T : TD) : TDI := fun ρ K => T ρ fun d ρ1 => match d with
  | .dict kds => K (kds.map fun p => .tuple [p.1, p.2]) ρ1
  | _ => False
theorem rpD_at {H : Hp} : ∀ {ds : List (PyData × PyData)} {xs : List (Key × V)} {i : Nat} {k : Key} {x : V}, RpD H ds xs → xs[i]? = some (k, x) → ∃ d, ds[i]? = some (kD k, d) ∧ Rp H d x
  | [], xs, i, k, x, r, h => by simp only [RpD] at r; subst r; simp at h
  | (ky, d) :: ds, xs, i, k, x, r, h => by
    simp only [RpD] at r
    obtain ⟨kk, y, r', rfl, rfl, r1, r2⟩ := r
    cases i with
    | zero => simp at h; obtain ⟨rfl, rfl⟩ := h; exact ⟨d, rfl, r1⟩
    | succ i => simpa using rpD_at r2 (by simpa using h)
theorem rpD_len {H : Hp} : ∀ {ds : List (PyData × PyData)} {xs : List (Key × V)}, RpD H ds xs → ds.length = xs.length
  | [], xs, r => by simp only [RpD] at r; subst r; rfl
  | (ky, d) :: ds, xs, r => by
    simp only [RpD] at r
    obtain ⟨kk, y, r', rfl, rfl, r1, r2⟩ := r
    rw [List.length_cons, List.length_cons, rpD_len r2]
theorem rp_key {H : Hp} : ∀ k : Key, Rp H (kD k) (kV k)
  | .inl i => Rp.int
  | .inr x => Rp.str
instance iiItems {t : TE} {T : TD} [r : Ref C t T] : RefI C (iItemsN t) (IItems T) := ⟨fun {σ H R ρ K} I h k =>
  r.go I h fun d ρ1 w H1 q1 k1 I1 r1 => by
    cases d with
    | dict kds =>
      simp only [Rp] at r1
      rcases r1 with ⟨a, o, kvs, rfl, ha, rl⟩ | ⟨rfl, a, o, rfl, ha, no, sm⟩
      · refine ⟨a, o, rfl, .inl ⟨kvs, ha, k _ _ _ _ q1 k1 I1 ⟨fun H2 => H2 a = some (.frz o (.dK kvs)), _, by rw [List.length_map, rpD_len rl]; exact walk_items, fun H2 kk => kk.fz _ _ _ ha, ?_⟩⟩⟩
        rintro i H2 x H3 hi kk ⟨T', x', y', rfl, nT, rfl, hx, hy⟩
        have hxy : kvs[i]? ≠ none := fun z => by simp [z] at hx
        cases q : kvs[i]? with
        | none => exact absurd q hxy
        | some kv =>
          obtain ⟨ky, v⟩ := kv
          simp [q] at hx hy
          subst hx hy
          obtain ⟨d, h1, h2⟩ := rpD_at rl q
          exact ⟨same_new nT, .tuple [kD ky, d], by simp [h1], Rp.tup upd_same (RpL.cons (rp_key ky) (RpL.cons ((h2.keep kk).same (same_new nT)) RpL.nil))⟩
      · refine ⟨a, o, rfl, .inr ⟨ha, no, sm, k _ _ _ _ q1 k1 I1 ⟨_, _, walk_itemsN, fun H2 kk => ⟨kk.fz _ _ _ ha, no, sm⟩, ?_⟩⟩⟩
        rintro i H2 x H3 hi kk ⟨T', rfl, nT, rfl⟩
        have : i = 0 := by simpa using hi
        subst this
        exact ⟨same_new nT, .tuple [.none, .int 1], rfl, Rp.tup upd_same (RpL.cons Rp.non (RpL.cons Rp.int RpL.nil))⟩
    | _ => exact q1.elim⟩
end
end Dw
end
section
set_option Elab.async false
set_option linter.all false
set_option maxRecDepth 100000
set_option maxHeartbeats 4000000
/-! Tg, part Za: Dw: several targets, some of them own; stores into own dicts; own lists looked at. -/
namespace Dw
open PySem PySem.Spec PyProof.Rows L2 Tg LamX
section
variable {C : DC}
theorem New.keep {ρ ρ' : DSt} {σ : L2.St} {H H' : Hp} {dv : DV} {p : Addr} {u : HO} (n : New C ρ σ H dv p) (hu : H p = some u) (k : Kp H H') (hu' : H' p = some u) (ap : ∀ (i : Nat) y, ρ'[i]? = some (some y) → y.mt = true → σ[i]? ≠ some (some (.ref p))) : New C ρ' σ H' dv p := by
  refine ⟨n.ow, ?_, ap⟩
  have h1 := n.ow
  have h2 := n.dv
  cases dv with
  | l xs =>
    obtain ⟨a, vs, e, h3, h4, h5⟩ := h2
    cases e
    rw [hu] at h3
    cases h3
    exact ⟨p, vs, rfl, hu', RpL.keep k _ _ h4, h5⟩
  | m xs =>
    obtain ⟨a, vs, e, h3, h4, h5⟩ := h2
    cases e
    rw [hu] at h3
    cases h3
    exact ⟨p, vs, rfl, hu', RpD.keep k _ _ h4, h5⟩
  | d x => cases h1
  | pot a c => cases h1
  | v x => cases h1
  | o y => cases h1
/-- what follows a new thing leaves it -/
theorem New.under {t : TE} {T : TD} [r : ∀ C', Ref C' t T] {ρ : DSt} {σ : L2.St} {H : Hp} {Q : VK} {K : PyData → DSt → Prop} {dv : DV} {p : Addr} (I : DI C ρ σ H) (n : New C ρ σ H dv p) (h : T ρ K)
    (k : ∀ d ρ' w H', K d ρ' → Kp H H' → DI C ρ' σ H' → New C ρ' σ H' dv p → Rp H' d w → Q w H') : t σ H Q := by
  obtain ⟨u, hu, ld, mu, n0, ns, nn⟩ := n.ld
  refine (r (C.hold p u nn)).go (I.hold hu n.ap) h fun d ρ1 w H1 q1 k1 I1 r1 => ?_
  obtain ⟨J1, hp1, ap1⟩ := I1.unhold
  exact k _ _ _ _ q1 k1 J1 (n.keep hu k1 hp1 ap1) r1
theorem New.underN {t : TE} {T : TN} [r : ∀ C', RefN C' t T] {ρ : DSt} {σ : L2.St} {H : Hp} {Q : VK} {K : DV → DSt → Prop} {dv : DV} {p : Addr} (I : DI C ρ σ H) (n : New C ρ σ H dv p) (h : T ρ K)
    (k : ∀ dw ρ' q H', K dw ρ' → Kp H H' → DI C ρ' σ H' → New C ρ' σ H' dv p → New C ρ' σ H' dw q → q ≠ p → Q (.ref q) H') : t σ H Q := by
  obtain ⟨u, hu, ld, mu, n0, ns, nn⟩ := n.ld
  refine (r (C.hold p u nn)).go (I.hold hu n.ap) h fun dw ρ1 q H1 q1 k1 I1 N1 => ?_
  obtain ⟨J1, hp1, ap1⟩ := I1.unhold
  obtain ⟨d1, d2⟩ := N1.dv.unhold
  have mt : dw.mt = true := N1.mt
  exact k _ _ _ _ q1 k1 J1 (n.keep hu k1 hp1 ap1) ⟨N1.ow, d1, N1.ap⟩ fun z => d2 mt (by rw [z])
def DParND (i j : Nat) (T : TN) (U : TD) : TDS := fun DD ρ => T ρ fun dv ρ1 => U ρ1 fun d ρ2 => DD.nx ((ρ2.set i (some dv)).set j (some (.d d)))
def DParNN (i j : Nat) (T U : TN) : TDS := fun DD ρ => T ρ fun dv ρ1 => U ρ1 fun dw ρ2 => i ≠ j ∧ DD.nx ((ρ2.set i (some dv)).set j (some dw))
instance iParND {i j : Nat} {t u : TE} {T : TN} {U : TD} [r : RefN C t T] [s : ∀ C', Ref C' u U] : RefS C (tPar i j (tCons t (tCons u tNil))) (DParND i j T U) := ⟨fun {D σ H ρ DD} I h n rt bk ct =>
  r.go I h fun dv ρ1 p H1 q1 k1 I1 N1 => New.under I1 N1 q1 fun d ρ2 w H2 q2 k2 I2 N2 r2 => ⟨_, _, rfl, n _ _ _ q2 (k1.trans k2) ((I2.set N2.dv fun _ j y _ e m => N2.ap j y e m).setD r2)⟩⟩
instance iParNN {i j : Nat} {t u : TE} {T U : TN} [r : RefN C t T] [s : ∀ C', RefN C' u U] : RefS C (tPar i j (tCons t (tCons u tNil))) (DParNN i j T U) := ⟨fun {D σ H ρ DD} I h n rt bk ct =>
  r.go I h fun dv ρ1 p H1 q1 k1 I1 N1 => New.underN I1 N1 q1 fun dw ρ2 q H2 q2 k2 I2 N2 M2 ne => ⟨_, _, rfl, n _ _ _ q2.2 (k1.trans k2) (by
    have I3 := I2.set (i := i) N2.dv fun _ j y _ e m => N2.ap j y e m
    refine I3.set M2.dv fun _ l y nl e m => ?_
    rcases get_set e with ⟨rfl, e2, hl⟩ | ⟨ne2, e2⟩
    · rw [List.getElem?_set_self (by rw [← I2.len]; exact hl)]
      intro z
      injection z with z
      injection z with z
      injection z with z
      exact ne z.symm
    · rw [List.getElem?_set_ne (Ne.symm ne2)]
      exact M2.ap l y e2 m)⟩⟩
/-- i, j, k = new, e, f -/
def DPar3N (i j l : Nat) (T : TN) (U V : TD) : TDS := fun DD ρ => T ρ fun dv ρ1 => U ρ1 fun d ρ2 => V ρ2 fun e ρ3 => DD.nx (((ρ3.set i (some dv)).set j (some (.d d))).set l (some (.d e)))
instance iPar3N {i j l : Nat} {t u v : TE} {T : TN} {U V : TD} [r : RefN C t T] [s : ∀ C', Ref C' u U] [s' : ∀ C', Ref C' v V] : RefS C (tPar3 i j l (tCons t (tCons u (tCons v tNil)))) (DPar3N i j l T U V) := ⟨fun {D σ H ρ DD} I h n rt bk ct =>
  r.go I h fun dv ρ1 p H1 q1 k1 I1 N1 => New.under I1 N1 q1 fun d ρ2 w H2 q2 k2 I2 N2 r2 => New.under I2 N2 q2 fun e ρ3 w3 H3 q3 k3 I3 N3 r3 =>
    ⟨_, _, _, rfl, n _ _ _ q3 ((k1.trans k2).trans k3) (((I3.set N3.dv fun _ j y _ e m => N3.ap j y e m).setD (r2.keep k3)).setD r3)⟩⟩
def DPar3 (i j l : Nat) (T U V : TD) : TDS := fun DD ρ => T ρ fun c ρ1 => U ρ1 fun d ρ2 => V ρ2 fun e ρ3 => DD.nx (((ρ3.set i (some (.d c))).set j (some (.d d))).set l (some (.d e)))
instance iPar3 {i j l : Nat} {t u v : TE} {T U V : TD} [r : Ref C t T] [s : Ref C u U] [s' : Ref C v V] : RefS C (tPar3 i j l (tCons t (tCons u (tCons v tNil)))) (DPar3 i j l T U V) := ⟨fun {D σ H ρ DD} I h n rt bk ct =>
  r.go I h fun c ρ1 w H1 q1 k1 I1 r1 => s.go I1 q1 fun d ρ2 w2 H2 q2 k2 I2 r2 => s'.go I2 q2 fun e ρ3 w3 H3 q3 k3 I3 r3 =>
    ⟨_, _, _, rfl, n _ _ _ q3 ((k1.trans k2).trans k3) (((I3.setD (r1.keep (k2.trans k3))).setD (r2.keep k3)).setD r3)⟩⟩
/-! ### d[x] = e, d own -/
def GPut (i : Nat) (U : TD) : TDG := fun d ρ K => (∃ kvs, ρ[i]? = some (some (.m kvs))) ∧ U ρ fun e ρ1 => isS e fun x => match ρ1[i]? with
  | some (some (.m kds)) => ∃ kvs, kds = strP kvs ∧ kvs.length < 1000000 ∧ K (ρ1.set i (some (.m (strP (putP kvs x d)))))
  | _ => False
instance igPut {i : Nat} {u : TE} {U : TD} [s : Ref C u U] : RefG C (gSub (tVar i) u rSetD) (GPut i U) [] := ⟨fun {σ H Q ρ K d w} I r h k => by
  obtain ⟨⟨kv0, e0⟩, h⟩ := h
  obtain ⟨w0, hw0, a0, ks0, rfl, ha0, _⟩ := I.at_ i _ e0
  refine ⟨_, hw0, s.go I h fun e ρ1 w1 H1 q1 k1 I1 r1 => ?_⟩
  obtain ⟨x, rfl, q2⟩ := isS_go q1
  split at q2
  · rename_i kds e
    obtain ⟨kvs, rfl, hl, q3⟩ := q2
    obtain ⟨w2, hw2, a, ks, rfl, ha, rl, n0, ns, nn⟩ := I1.at_ i _ e
    rw [hw0] at hw2
    cases hw2
    have pr := rpP rl
    have hlen : kvs.length = ks.length := Paired.length pr
    have kp := kp_but ha True.intro (But.upd (p := a0) (H := H1) (o := .dK (putK ks (.inr x) w)))
    refine ⟨a0, _, rfl, .inl ⟨ks, .inr x, ha, rp_str r1, by rw [sizeLine_eq]; omega, rfl⟩, ?_⟩
    have I2 := (I1.forget i).but ha True.intro (But.upd (o := .dK (putK ks (.inr x) w))) n0 ns nn (DI.own I1 e hw0 rfl)
    have I3 := I2.tell (i := i) (dv := .m (strP (putP kvs x d))) hw0 ⟨a0, _, rfl, upd_same, RpD.keep kp _ _ (rpP_of (pair_put pr (r.keep k1))), n0, ns, nn⟩ fun _ j y ne ej my => DI.own I1 e hw0 rfl j y ej my
    rw [set_set] at I3
    exact k _ _ _ q3 (k1.trans kp) I3 (Tch.refl _)
  · exact q2.elim⟩
/-! ### own lists looked at -/
/-- xs[e], xs own -/
def DPeek (i : Nat) (U : TD) : TD := fun ρ K => (∃ xs, ρ[i]? = some (some (.l xs))) ∧ U ρ fun e ρ1 => isI e fun j => match ρ1[i]? with
  | some (some (.l xs)) => ∃ x, atI xs j = some x ∧ K x ρ1
  | _ => False
instance iPeek {Kf : PySem.W.Frag} {i : Nat} {u : TE} {U : TD} [s : Ref C u U] : Ref C (tOp (rIxL Kf) (tVar i) u) (DPeek i U) := ⟨fun {σ H Q ρ K} I h k => by
  obtain ⟨⟨xs0, e0⟩, h⟩ := h
  obtain ⟨w0, hw0, a0, vs0, rfl, ha0, _⟩ := I.at_ i _ e0
  refine ⟨_, hw0, s.go I h fun e ρ1 w1 H1 q1 k1 I1 r1 => ?_⟩
  obtain ⟨j, rfl, q2⟩ := isI_go q1
  split at q2
  · rename_i xs e
    obtain ⟨x, hx, q3⟩ := q2
    obtain ⟨w2, hw2, a, vs, rfl, ha, rl, _⟩ := I1.at_ i _ e
    rw [hw0] at hw2
    cases hw2
    obtain ⟨v, h1, h2⟩ := at_go rl hx
    exact ⟨a0, vs, j, v, rfl, rp_int r1, SqL.of ha, h1, k _ _ _ _ q3 k1 I1 h2⟩
  · exact q2.elim⟩
/-- xs != [], xs own -/
def DNe0 (i : Nat) : TD := fun ρ K => match ρ[i]? with
  | some (some (.l xs)) => K (.bool (!xs.isEmpty)) ρ
  | _ => False
instance iNe0 {Kf : PySem.W.Frag} {i : Nat} : Ref C (tOp (rNeL0 Kf) (tVar i) (tLst tNil)) (DNe0 i) := ⟨fun {σ H Q ρ K} I h k => by
  unfold DNe0 at h
  split at h
  · rename_i xs e
    obtain ⟨w, hw, a, vs, rfl, ha, rl, _⟩ := I.at_ i _ e
    refine ⟨_, hw, len_ok (Nat.zero_le _), fun p np => ⟨a, p, vs, rfl, rfl, SqL.of (same_new np _ _ ha), SqL.of upd_same, ?_⟩⟩
    have e2 : vs.isEmpty = xs.isEmpty := by
      have := rpL_len rl
      cases xs <;> cases vs <;> first | rfl | cases this
    rw [e2]
    exact k _ _ _ _ h (Kp.new np) (I.same (same_new np)) Rp.bl
  · exact h.elim⟩
/-- xs.pop(e), xs own -/
def DPop (i : Nat) (U : TD) : TD := fun ρ K => (∃ xs, ρ[i]? = some (some (.l xs))) ∧ U ρ fun e ρ1 => isI e fun j => match ρ1[i]? with
  | some (some (.l xs)) => ∃ (n : Nat) (x : PyData), j = n ∧ xs[n]? = some x ∧ xs.length ≤ 1000000 ∧ K x (ρ1.set i (some (.l (xs.eraseIdx n))))
  | _ => False
theorem rpL_erase {H : Hp} : ∀ {ds : List PyData} {xs : List V} (i : Nat), RpL H ds xs → RpL H (ds.eraseIdx i) (xs.eraseIdx i)
  | [], xs, i, r => by simp only [RpL] at r; subst r; simpa using RpL.nil
  | d :: ds, xs, 0, r => by
    simp only [RpL] at r
    obtain ⟨x, r', rfl, h1, h2⟩ := r
    simpa using h2
  | d :: ds, xs, i + 1, r => by
    simp only [RpL] at r
    obtain ⟨x, r', rfl, h1, h2⟩ := r
    simpa using RpL.cons h1 (rpL_erase i h2)
instance iPop {Kf : PySem.W.Frag} {i : Nat} {u : TE} {U : TD} [s : Ref C u U] : Ref C (tBM Kf "list" rPopAt (tVar i) (tCons u tNil)) (DPop i U) := ⟨fun {σ H Q ρ K} I h k => by
  obtain ⟨⟨xs0, e0⟩, h⟩ := h
  obtain ⟨w0, hw0, a0, vs0, rfl, ha0, _⟩ := I.at_ i _ e0
  refine ⟨_, hw0, .inl ⟨rfl, vs0, SqL.of ha0⟩, s.go I h fun e ρ1 w1 H1 q1 k1 I1 r1 => ?_⟩
  obtain ⟨j, rfl, q2⟩ := isI_go q1
  split at q2
  · rename_i xs e
    obtain ⟨n, x, rfl, hx, hl, q3⟩ := q2
    obtain ⟨w2, hw2, a, vs, rfl, ha, rl, n0, ns, nn⟩ := I1.at_ i _ e
    rw [hw0] at hw2
    cases hw2
    obtain ⟨v, h1, h2⟩ := rpL_at rl hx
    have hn := (List.getElem?_eq_some_iff.mp h1).1
    have hlen := rpL_len rl
    have kp := kp_but ha True.intro (But.upd (p := a0) (H := H1) (o := .lst (vs.eraseIdx n)))
    refine ⟨a0, vs, n, n, v, rfl, by rw [rp_int r1], ha, by omega, by omega, ?_, h1, ?_⟩
    · unfold seqIndex?
      simp
      omega
    · have I2 := (I1.forget i).but ha True.intro (But.upd (o := .lst (vs.eraseIdx n))) n0 ns nn (DI.own I1 e hw0 rfl)
      have I3 := I2.tell (i := i) (dv := .l (xs.eraseIdx n)) hw0 ⟨a0, _, rfl, upd_same, RpL.keep kp _ _ (rpL_erase n rl), n0, ns, nn⟩ fun _ j y ne ej my => DI.own I1 e hw0 rfl j y ej my
      rw [set_set] at I3
      exact k _ _ _ _ q3 (k1.trans kp) I3 (h2.keep kp)
  · exact q2.elim⟩
/-- len(xs), xs own -/
def rLenO (Kf : PySem.W.Frag) : List V → Hp → VK → Prop := fun xs H Q => ∃ x n, xs = [x] ∧ LenV Kf x H n ∧ Q (.int n) H
theorem call_lenO {X : Cx} : CallR X (.builtin "len") (rLenO X.K) := call_len
def DLenO (i : Nat) : TD := fun ρ K => match ρ[i]? with
  | some (some (.l xs)) => K (.int xs.length) ρ
  | _ => False
instance iLenO {Kf : PySem.W.Frag} {i : Nat} : Ref C (tCB (rLenO Kf) (tCons (tVar i) tNil)) (DLenO i) := ⟨fun {σ H Q ρ K} I h k => by
  unfold DLenO at h
  split at h
  · rename_i xs e
    obtain ⟨w, hw, a, vs, rfl, ha, rl, _⟩ := I.at_ i _ e
    refine ⟨_, hw, _, _, rfl, .inl ⟨vs, SqL.of ha, rfl⟩, ?_⟩
    rw [← rpL_len rl]
    exact k _ _ _ _ h (Kp.refl _) I Rp.int
  · exact h.elim⟩
end
end Dw
end
section
set_option Elab.async false
set_option linter.all false
set_option maxRecDepth 100000
set_option maxHeartbeats 4000000
/-! Tg, part Zb: Dw: list(text), list + list, text * number. -/
namespace Dw
open PySem PySem.Spec PyProof.Rows L2 Tg LamX
section
variable {X : Cx}
def signs (a : Str) : List PyData := a.cps.toList.map fun c => .str ⟨#[c]⟩
def NListS : LL := fun ds K => on1 ds fun d => isS d fun a => a.length ≤ 16777216 ∧ K (signs a)
theorem vals_go : ∀ (l : List Nat) (us : List Value), us.length = l.length → (∀ (j : Nat) (v : Value), us[j]? = some v → ∃ (c : Nat) (u : Tok), l[j]? = some c ∧ v = Value.str ⟨#[c]⟩ u) → Vals (l.map fun c => V.str ⟨#[c]⟩) us
  | [], [], _, _ => .nil
  | [], u :: us, h, _ => by cases h
  | c :: l, [], h, _ => by cases h
  | c :: l, u :: us, h, k => by
    obtain ⟨c', t, e1, e2⟩ := k 0 u rfl
    cases e1
    exact .cons ⟨t, e2⟩ (vals_go l us (by simpa using h) fun j v e => by simpa using k (j + 1) v (by simpa using e))
theorem vals_signs {x : Str} {acc : Array Value} (h : ItemsOf (SignAt x) acc x.cps.size) : Vals (x.cps.toList.map fun c => V.str ⟨#[c]⟩) acc.toList :=
  vals_go _ _ (by simpa using h.1) fun j v e => by
    obtain ⟨c, u, e1, e2⟩ := h.2 j v (by simpa using e)
    exact ⟨c, u, by simpa using e1, e2⟩
theorem rpL_signs {H : Hp} : ∀ {l : List Nat}, RpL H (l.map fun c => PyData.str ⟨#[c]⟩) (l.map fun c => V.str ⟨#[c]⟩)
  | [] => RpL.nil
  | c :: l => RpL.cons Rp.str rpL_signs
theorem call_list_str1 (hc : X.calm = true) : CallR X (.type "list") (fun xs H Q => ∃ x : Str, xs = [.str x] ∧ x.length ≤ sizeLine ∧ ∀ l, H l = none → Q (.ref l) (upd H l (.lst (x.cps.toList.map fun c => V.str ⟨#[c]⟩)))) := by
  intro pins s σ H xs us Q I r h
  obtain ⟨x, rfl, hz, q⟩ := h
  obtain ⟨u, rfl, rx⟩ := vals1 r
  obtain ⟨t, rfl⟩ := rx
  refine call_list_str (I.ok.hd hc) x t (fun h' tk acc' c' kp e it => ?_) hz
  refine ⟨.ref s.heap.objs.size, _, I.laid (t' := tk) kp (Nat.le_refl _) (show ObjOk X.prog X.w _ h' _ (.lst _) from ⟨by rw [List.length_map]; exact hz, acc'.toList, c', vals_signs it, by simpa using e⟩), rfl, q _ (I.hok.fresh (Nat.le_refl _))⟩
theorem dListS (hc : X.calm = true) : CallR X (.type "list") (cN NListS) := CallR.of (call_list_str1 hc) fun x H Q q => by
  obtain ⟨ds, K, r, q, k⟩ := q
  obtain ⟨d, rfl, q1⟩ := on1_go q
  obtain ⟨x, rfl, r1⟩ := rpL1 r
  obtain ⟨a, rfl, hz, q2⟩ := isS_go q1
  cases rp_str r1
  exact ⟨a, rfl, by rw [sizeLine_eq]; exact hz, fun l nl => k _ _ _ q2 ⟨_, nl, rfl, rpL_signs⟩⟩
/-! ### list + list -/
theorem op_catL : OpR X (binaryOp .Add) (fun x y H Q => ∃ l b xs ys, x = .ref l ∧ y = .ref b ∧ Rd H l (.lst xs) ∧ Rd H b (.lst ys) ∧ xs.length + ys.length ≤ sizeLine ∧ ∀ p, H p = none → Q (.ref p) (upd H p (.lst (xs ++ ys)))) := by
  intro pins s σ H x y v u Q I rx ry h
  obtain ⟨l, b, xs, zs, rfl, rfl, hH, hB, hz, q⟩ := h
  cases rx
  cases ry
  obtain ⟨z, its, n, r, e⟩ := hH.ok I.hok
  obtain ⟨z2, its2, n2, r2, e2⟩ := hB.ok I.hok
  have l1 := r.length
  have l2 := r2.length
  refine PySem.P.add_list e e2 ?_ (by rw [List.size_toArray, List.size_toArray]; omega)
  have ea : its.toArray ++ its2.toArray = (its ++ its2).toArray := by simp
  rw [ea]
  exact ⟨.ref _, _, I.lnew (t' := s.toks) (r.append r2) (by rw [List.length_append]; omega), rfl, q _ I.fresh⟩
theorem rpL_append {H : Hp} : ∀ {ds es : List PyData} {vs ws : List V}, RpL H ds vs → RpL H es ws → RpL H (ds ++ es) (vs ++ ws)
  | [], es, vs, ws, r, r' => by
    simp only [RpL] at r
    subst r
    exact r'
  | d :: ds, es, vs, ws, r, r' => by
    simp only [RpL] at r
    obtain ⟨x, xs, rfl, h1, h2⟩ := r
    exact RpL.cons h1 (rpL_append h2 r')
theorem dCat : OpR X (binaryOp .Add) (rN NCat) := OpR.of op_catL fun x y H Q q => by
  obtain ⟨d, e, K, r1, r2, q, k⟩ := q
  obtain ⟨xs, rfl, q1⟩ := isL_go q
  obtain ⟨ys, rfl, hz, q2⟩ := isL_go q1
  obtain ⟨p, o, vs, rfl, ha, rl⟩ := rp_list r1
  obtain ⟨p', o', vs', rfl, ha', rl'⟩ := rp_list r2
  exact ⟨p, p', vs, vs', rfl, rfl, (.inr ⟨o, ha⟩), (.inr ⟨o', ha'⟩), by rw [sizeLine_eq, ← rpL_len rl, ← rpL_len rl']; exact hz, fun l nl => k _ _ _ q2 ⟨_, nl, rfl, rpL_append rl rl'⟩⟩
/-! ### text * number -/
theorem op_mulS : OpR X (binaryOp .Mult) (fun x y H Q => ∃ i j, x = .str i ∧ y = .int j ∧ (j = 0 ∨ j = 1) ∧ Q (.str (if j = 1 then i else "")) H) := by
  intro pins s σ H x y v u Q I rx ry h
  obtain ⟨i, j, rfl, rfl, hj, q⟩ := h
  obtain ⟨t, rfl⟩ := rx
  obtain ⟨t', rfl⟩ := ry
  rcases hj with rfl | rfl
  · exact PySem.P.mul_str_none (by decide) (by decide) ⟨.str "", H, I.tok _, ⟨_, rfl⟩, q⟩
  · refine PySem.P.mul_str (by decide) (fun _ h => by simp at h) (fun _ h => by simp at h) ?_
    exact ⟨.str i, H, I, ⟨_, rfl⟩, q⟩
theorem dMulX : OpR X (binaryOp .Mult) (rD RMulX) := OpR.of (OpR.or dMul op_mulS) fun x y H Q q => by
  obtain ⟨d, e, K, r1, r2, q, k⟩ := q
  unfold RMulX at q
  split at q
  · exact .inl ⟨_, _, K, r1, r2, q, k⟩
  · cases rp_str r1
    cases rp_int r2
    exact .inr ⟨_, _, rfl, rfl, q.1, k _ _ _ q.2.2 (fun _ _ e => e) Rp.str⟩
  · exact q.elim
end
/-- i, j, k = e, new, f -/
def DPar3M (i j l : Nat) (U : TD) (T : TN) (V : TD) : TDS := fun DD ρ => U ρ fun d ρ1 => T ρ1 fun dv ρ2 => V ρ2 fun e ρ3 => DD.nx (((ρ3.set i (some (.d d))).set j (some dv)).set l (some (.d e)))
section
variable {C : DC}
instance iPar3M {i j l : Nat} {t u v : TE} {T : TN} {U V : TD} [s : Ref C u U] [r : RefN C t T] [s' : ∀ C', Ref C' v V] : RefS C (tPar3 i j l (tCons u (tCons t (tCons v tNil)))) (DPar3M i j l U T V) := ⟨fun {D σ H ρ DD} I h n rt bk ct =>
  s.go I h fun d ρ1 w H1 q1 k1 I1 r1 => r.go I1 q1 fun dv ρ2 p H2 q2 k2 I2 N2 => New.under I2 N2 q2 fun e ρ3 w3 H3 q3 k3 I3 N3 r3 =>
    ⟨_, _, _, rfl, n _ _ _ q3 ((k1.trans k2).trans k3) (by
      have r1' := r1.keep (k2.trans k3)
      have I4 := I3.setD (i := i) r1'
      refine (I4.set N3.dv fun _ j' y ne e m => ?_).setD r3
      rcases get_set e with ⟨rfl, e2, hl⟩ | ⟨ne2, e2⟩
      · cases e2
        cases m
      · rw [List.getElem?_set_ne (Ne.symm ne2)]
        exact N3.ap j' y e2 m)⟩⟩
end
end Dw
end
section
set_option Elab.async false
set_option linter.all false
set_option maxRecDepth 100000
set_option maxHeartbeats 4000000
/-! Tg, part Zc: Dw: e.replace of written texts, behind a test that gives a token out. -/
namespace Dw
open PySem PySem.Spec PyProof.Rows L2 Tg LamX CwR
section
variable {X : Cx}
/-- behind a test against a written text a token is out -/
theorem pss_ifT {op : CmpOp} {r : R2} {e : Expr} {te : TE} {y : Str} {j : Nat} {c0 pos pos' : Pos} {a b rest : List Stmt} {t u v : TS} (ho : OpR X (compareOp op) r) (he : PE X e te) (hm : behindInMarks op (.Constant (.str y) j c0) = false) (ha : PSs X a t) (hb : PSs X b u) (hr : PSsT X rest v) :
    PSs X (.If (.Compare e [op] [.Constant (.str y) j c0] pos) a b pos' :: rest) (tSeq (tIfS (tTest (tOp r te (tC (.str y)))) t u) v) := by
  refine ⟨fun pins s σ H D I h => ?_⟩
  refine wpAny_execs_cons (wpAny_If (wpAny_isTrue_Compare1 (thn (he.run pins s σ H _ I h) fun w s1 ⟨x, H1, I1, r1, q1⟩ => Calls.Constant_str ?_) hm))
  refine wpAny_mono (PySem.wpAny_toks (ho pins { s1 with toks := s1.toks + 1 } σ H1 x (.str y) w _ _ (I1.tok _) r1 ⟨_, rfl⟩ q1)) (fun c s3 ⟨hk, z, H3, I3, r3, k, e, q3⟩ => ?_) fun _ _ z => z.2
  subst e
  cases r3
  refine wpAny_truthy_bool ?_
  have h1 : 1 ≤ s3.toks := Nat.le_trans (Nat.le_add_left 1 s1.toks) hk
  have fin : ∀ {ss : List Stmt} {tt : TS}, PSs X ss tt → tt { D with nx := v D } σ H3 → wpAny (model X.prog X.w) X.A (execs ss X.env) (fun f s' => match f with
      | .next => wpAny (model X.prog X.w) X.A (execs rest X.env) (SP X pins D) X.xe s'
      | f => SP X pins D f s') X.xe s3 := fun {ss tt} hs q => by
    refine wpAny_mono (PySem.wpAny_toks (hs.run pins s3 σ H3 { D with nx := v D } I3 q)) (fun f s4 q => ?_) fun _ _ z => z.2
    obtain ⟨hk, q⟩ := q
    cases f with
    | next =>
      obtain ⟨σ', H', I', q⟩ := q
      exact hr pins s4 σ' H' D (Nat.le_trans h1 hk) I' q
    | ret v => exact q
    | brk => exact q
    | cont => exact q
  cases k with
  | true => exact fin ha q3
  | false => exact fin hb q3
theorem pst_set {i : Nat} {x : Str} {e : Expr} {te : TE} {pos pos' : Pos} (hN : X.N.Nodup) (hi : X.N[i]? = some x) (hx : Loc X.env.scope x) (he : PET X e te) (hs : swapsWith e (some (.Name x pos')) pos.line X.env = pure false := by rfl) (hf : X.fn x = true ∨ X.env.scope.names.lookup x = some .local := by first | exact .inl rfl | exact .inr rfl | assumption) :
    PST X (.Assign [.Name x pos'] e pos) (tAsg te (gName i)) := by
  intro pins s σ H D h0 I h
  refine wpAny_Assign_Name (thn (he pins s σ H _ h0 I h) fun v s1 ⟨y, H1, I1, r1, q1⟩ => ?_) hs
  exact store_ok I1 hN hi hx r1 (fun s2 I2 => ⟨_, H1, I2, q1⟩) hf
end
def DRepl (T : TD) (y z : Str) : TD := fun ρ K => T ρ fun d ρ1 => isS d fun x => x.length + (x.length + 1) * z.length ≤ 16777216 ∧ K (.str (Txt.replace x y z)) ρ1
instance iRepl {C : DC} {t : TE} {T : TD} {y z : Str} [r : Ref C t T] : Ref C (tReplC t y z) (DRepl T y z) := ⟨fun {σ H Q ρ K} I h k =>
  r.go I h fun d ρ1 w H1 q1 k1 I1 r1 => by
    obtain ⟨x, rfl, h1, q2⟩ := isS_go q1
    exact ⟨x, rp_str r1, h1, k _ _ _ _ q2 k1 I1 Rp.str⟩⟩
end Dw
end
section
set_option Elab.async false
set_option linter.all false
set_option maxRecDepth 100000
set_option maxHeartbeats 4000000
/-! Tg, part Zd: x(lambda: body, word), and what it is in Dw. -/
namespace Dw
open PySem PySem.Spec PyProof.Rows L2 Tg LamX
/-- as GivesTo, a written text handed over beside the lambda -/
def GivesTo2 (X : Cx) (Ng : List Str) (x : Str) (sg : Scope) (g : Addr) (cdg : Value) (bg : List Stmt) (a : Str) (q wd : Str) (TT : (XK → Hp → VK → Prop) → Hp → VK → Prop) : Prop :=
  ∀ (f c' : Addr) (s : Shared) (H : Hp) (Q : VK) (tl : XK → Hp → VK → Prop),
    (∀ (W : WX) (pn : List (Addr × Obj)) (xe : Value → Shared → Prop) (E : XK) (p1 p2 : Pos), Takes ((cxOf C8.CX0 X.prog X.w X.K X.mg X.base Ng x sg g cdg X.A X.stack s H C8.E0).tr pn xe) W →
      PE ((cxOf C8.CX0 X.prog X.w X.K X.mg X.base Ng x sg g cdg X.A X.stack s H C8.E0).tr pn xe) (.Call (.Name a p1) [] [] p2) (fun σZ HZ Q => (∀ cls d H', E cls d H' → W cls d σZ H') ∧ σZ[0]? = some (some (.ref f)) ∧ HZ c' = some (CodeO c' q) ∧ tl E HZ Q)) →
    H c' = some (CodeO c' q) → TT tl H Q →
    ∃ t, PSs (cxOf C8.CX0 X.prog X.w X.K X.mg X.base Ng x sg g cdg X.A X.stack s H C8.E0).nox bg t ∧ t { nx := fun _ H' => Q .non H', rt := Q } (L2.start Ng [.ref f, .str wd]) H
section
variable {X : Cx} {pins : List (Addr × Obj)} {σ : L2.St} {H : Hp} {s : Shared}
/-- x(), in the def that got the lambda; what may be let out is told at the very state -/
theorem pe_act2 {CXg : CXT} {Eg : XK} {Ng : List Str} {qg : Str} {sg : Scope} {g f c' : Addr} {cdg pm ctv : Value} {params : Arguments} {body : Expr} {scope : Scope} {k i : Nat} {a : Str} {pn : List (Addr × Obj)} {xe : Value → Shared → Prop} {W : WX} {E : XK} {tb : TE} {p1 p2 : Pos}
    (I : Inv X pins σ H s) (L : LamS X.env.scope scope) (hf : s.heap.get? f = some (PySem.W.kla_obj "<lambda>" (X.env.qual ++ "<lambda>") params body scope (cloFrom X.env.cells scope.names []) pm c' ctv)) (hfn : H f = none) (hfr : f ∉ frs X.stack)
    (hbind : bindArgs (PySem.W.kla_fn "<lambda>" (X.env.qual ++ "<lambda>") params body scope (cloFrom X.env.cells scope.names []) pm (.ref c') ctv) ⟨[], []⟩ = pure [])
    (tk : Takes ((cxOf CXg X.prog X.w X.K X.mg X.base Ng qg sg g cdg X.A X.stack s H Eg).tr pn xe) W) (hr : Room (k + 1) (X.A.deeper (envOfC qg sg s.heap.objs.size g cdg)))
    (hbody : ∀ (A : Around) (outer : List Env) (s : Shared) (H : Hp), Room k (A.deeper (lamEnv X scope s.heap.objs.size f c')) → PE (lamCx X A outer s H E scope f c') body tb)
    (hN : Ng[i]? = some a) (hv : Vis sg a) (hd : (a == ("__debug__" : Str)) = false := by decide) (hcd : (a == ("__classdict__" : Str)) = false := by decide) :
    PE ((cxOf CXg X.prog X.w X.K X.mg X.base Ng qg sg g cdg X.A X.stack s H Eg).tr pn xe) (.Call (.Name a p1) [] [] p2)
      (fun σZ HZ Q => (∀ cls d H', E cls d H' → W cls d σZ H') ∧ σZ[i]? = some (some (.ref f)) ∧ HZ c' = some (CodeO c' (X.env.qual ++ "<lambda>")) ∧ tb σ HZ Q) := by
  refine ⟨fun pinsZ sZ σZ HZ Q IZ h => ?_⟩
  obtain ⟨hW, hs, hc, ht⟩ := h
  refine wpAny_Call_Name_kw (thn ((pe_var (pos := p1) (i := i) hN hv hd hcd).run pinsZ sZ σZ HZ (fun v H1 => v = .ref f ∧ H1 = HZ) IZ ⟨.ref f, hs, rfl, rfl⟩) fun u s1 ⟨v, H1, I1, r1, q1⟩ => ?_)
  obtain ⟨ev, eH⟩ := q1
  subst ev
  rw [eH] at I1
  obtain rfl : u = Value.ref f := r1
  have of1 : s1.heap.get? f = some (PySem.W.kla_obj "<lambda>" (X.env.qual ++ "<lambda>") params body scope (cloFrom X.env.cells scope.names []) pm c' ctv) := I1.base.keep f _ hf hfn hfr (fun z => nomatch (show f ∈ ([] : List Addr) from z))
  refine PySem.W.callWith_F0 ⟨_, _, _, _, of1⟩ ?_
  have un : Un (frs X.stack) [] H HZ s.heap s1.heap := I1.base
  obtain ⟨⟨oc, vs, t, hoc, hdc, hvc⟩, _, _⟩ := I1.hok c' _ hc
  have rc : codeAny (model X.prog X.w) (X.A.deeper (envOfC qg sg s.heap.objs.size g cdg)) (.call (.ref f) ⟨[], []⟩) (CR (L2.CX X.prog X.w) (envOfC qg sg s.heap.objs.size g cdg :: X.stack) X.prog X.w HZ s1 Q E) s1 := by
    refine PySem.W.kla_callFunE hr.depth of1 rfl L.co L.gen rfl ⟨c', oc, vs, t, rfl, hoc, hdc, hvc⟩ ?_
    rw [hbind]
    refine wpAny_pure (wpAny_newFunctionEnv (fun y hy => (L.own y hy).2) (fun y hy => absurd hy (by simp)) (fun h₁ hns hsb => ⟨I1.nolimit.fresh _ hsb, ?_⟩) L.kind)
    show codeAny _ _ (.expr body (lamEnv X scope s1.heap.objs.size f c')) _ _
    have kp : ∀ b o, s1.heap.get? b = some o → h₁.get? b = some o := fun b o e => hsb.extBut b o (Nat.ne_of_lt (Heap.lt_size e)) (Heap.get?_push_of_some _ e)
    have J : Inv (lamCx X (X.A.deeper (envOfC qg sg s.heap.objs.size g cdg)) (envOfC qg sg s.heap.objs.size g cdg :: X.stack) s1 HZ E scope f c') [] σ HZ { s1 with heap := h₁, toks := s1.toks + ([] : List (Str × Value)).length } :=
      lam_start2 I L I1.env0 hr.hd un hns kp
    refine PySem.W.kla_codeExpr (wpAny_mono ((hbody _ _ s1 HZ (hr.deeper _)).run [] _ _ HZ Q J ht) (fun v s' hq => ?_) fun e s' hq => hq)
    obtain ⟨w', H', J', rv, q⟩ := hq
    exact ⟨w', H', J'.os, J'.bare, J'.base, J'.hok, rv, q⟩
  refine wpAny_call (codeAny_mono rc fun r s' hq => ?_)
  cases r with
  | error e => exact tk e s' (XE.of_call I1 (fun cls d H' h => hW cls d H' h) hq)
  | ok fl =>
    cases fl with
    | ret u => exact I1.after hq
    | next => exact False.elim hq
    | brk => exact False.elim hq
    | cont => exact False.elim hq
/-- x(lambda: body, wd) -/
theorem pe_lamcall2 {T : List (Addr × Str)} {TT : (XK → Hp → VK → Prop) → Hp → VK → Prop} {x a b wd : Str} {g c P : Addr} {k jw : Nat} {pg : Arguments} {bg : List Stmt} {sg : Scope} {dV kV doc pm cdv ct oc : Value} {an od : Option Addr} {osl : Array (Option Value)} {Ng : List Str}
    {params : Arguments} {body : Expr} {scope : Scope} {t : XK → TE} {p lpos pos wpos : Pos} (hg : Gl X x) (hm : X.mg x = some (.ref g)) (hk : PySem.W.keepIn X.K (.ref g) = true)
    (lk : X.K.lookup g = some ⟨oc, od, .func (PySem.W.fnOf x x pg bg sg dV kV doc pm an cdv ct), osl⟩) (hcg : PySem.W.codeIn X.K cdv x = true) (hb : L2.Binds X.K (PySem.W.fnOf x x pg bg sg dV kV doc pm an cdv ct) [a, b] []) (Sg : FnScope Ng [a, b] sg) (hNg : Ng[0]? = some a) (hva : Vis sg a)
    (hG : GivesTo2 X Ng x sg g cdv bg a (X.env.qual ++ "<lambda>") wd TT)
    (TB : TabB X.base X.mg c P) (hcode : X.env.code = .ref c) (hmT : (P, X.env.qual ++ "<lambda>") ∈ T) (hu : ∀ p ∈ T, p.1 = P → p.2 = X.env.qual ++ "<lambda>") (hr : Room (k + 2) X.A) (L : LamS X.env.scope scope) (hdef : defaultsOf params X.env = ([], []))
    (hbind : ∀ (q : Str) (cl : List (Str × Addr)) (pm cv ctv : Value), bindArgs (PySem.W.kla_fn "<lambda>" q params body scope cl pm cv ctv) ⟨[], []⟩ = pure [])
    (hbody : ∀ (A : Around) (outer : List Env) (s : Shared) (H : Hp) (E : XK) (f c' : Addr), Room k (A.deeper (lamEnv X scope s.heap.objs.size f c')) → PE (lamCx X A outer s H E scope f c') body (t E))
    (hdb : (x == ("__debug__" : Str)) = false := by decide) (hd : (a == ("__debug__" : Str)) = false := by decide) (hcd : (a == ("__classdict__" : Str)) = false := by decide) :
    PE X (.Call (.Name x p) [.Lambda params body scope lpos, .Constant (.str wd) jw wpos] [] pos) (tLam T TT t) := by
  refine ⟨fun pins s σ H Q I h => ?_⟩
  obtain ⟨hT, h⟩ := h
  refine wpAny_Call_Name_kw (ld_glob I hg hm ?_ hdb)
  refine PySem.W.callWith_K (h₀ := X.base) I.ok.mod.kin hk ?_ (by rfl) (by rfl)
  show wpAny _ _ (spliced ((false, eval (.Lambda params body scope lpos) X.env) :: backTo pos (starEach [.Constant (.str wd) jw wpos] X.env))) _ _ s
  refine Calls.spliced_cons (lam_make2 I TB hcode hmT hu hT hdef (L.has I.ok) fun f c' pm' ctv H1 s' I1 eN T1 hf hfn hfr hco => ?_)
  show wpAny _ _ (spliced ((false, eval (.Constant (.str wd) jw wpos) X.env) :: backTo pos (starEach [] X.env))) _ _ s'
  refine Calls.spliced_cons (Calls.Constant_str (Calls.spliced_nil ?_))
  have I2 : Inv X pins σ H1 { s' with toks := s'.toks + 1 } := I1.tok _
  refine ⟨I2.kIn, ?_⟩
  have rc : codeAny (model X.prog X.w) X.A (.call (.ref g) ⟨[.ref f, .str wd s'.toks], []⟩) (CR C8.CX0 X.stack X.prog X.w H1 { s' with toks := s'.toks + 1 } Q C8.E0) { s' with toks := s'.toks + 1 } := by
    refine run_ofS (N := Ng) (ps := [a, b]) (us := [.ref f, .str wd s'.toks]) (vs := [.ref f, .str wd]) lk hcg Sg hr I2.env0 (hb { s' with toks := s'.toks + 1 } [.ref f, .str wd s'.toks] I2.kIn rfl) (.cons rfl (.cons ⟨_, rfl⟩ .nil)) rfl fun hr' => ?_
    obtain ⟨t', ht', hq'⟩ := hG f c' { s' with toks := s'.toks + 1 } H1 Q (fun E H' Q' => t E σ H' Q') (fun W pn xe E p1 p2 tk => pe_act2 (i := 0) I2 L hf hfn hfr (hbind _ _ _ _ _) tk hr' (fun A outer s H hr2 => hbody A outer s H E f c' hr2) hNg hva hd hcd) hco (h H1 eN T1)
    exact ⟨t', ht'.nox, hq'⟩
  refine wpAny_call (codeAny_mono rc fun r s2 hq => ?_)
  cases r with
  | error e => exact (show False from hq).elim
  | ok fl =>
    cases fl with
    | ret u => exact I2.after hq
    | next => exact False.elim hq
    | brk => exact False.elim hq
    | cont => exact False.elim hq
end
end Dw
end
section
set_option Elab.async false
set_option linter.all false
set_option maxRecDepth 100000
set_option maxHeartbeats 4000000
/-! Tg, part Ze: Dw: dict displays, pairs of texts compared, lambdas handed over. -/
namespace Dw
open PySem PySem.Spec PyProof.Rows L2 Tg LamX
section
variable {C : DC}
/-- {k: e} -/
def DDisp1 (k : Key) (T : TD) : TN := fun ρ K => T ρ fun d ρ1 => K (.m [(kD k, d)]) ρ1
theorem disp_go {k : Key} {t : TE} {T : TD} [r : ∀ C', Ref C' t T] {σ : L2.St} {H : Hp} {Q : VK} {ρ : DSt} {K : DV → DSt → Prop} (I : DI C ρ σ H) (h : DDisp1 k T ρ K) (kk : ∀ dv ρ' p H', K dv ρ' → Kp H H' → DI C ρ' σ H' → New C ρ' σ H' dv p → Q (.ref p) H') : tDisp [(tC (kV k), t)] σ H Q := fun p np => by
  obtain ⟨I1, k1, N1⟩ := I.newM ⟨[], np, rfl, RpD.nil⟩
  refine (New.under (t := t) (T := T) I1 N1 h fun d ρ2 w H2 q2 k2 I2 N2 r2 => ?_ : t σ (upd H p (.dK [])) _)
  obtain ⟨a, ks, e, h1, h2, n0, ns, nn⟩ := N2.dv
  cases e
  simp only [RpD] at h2
  subst h2
  have kp : Kp H2 (upd H2 p (.dK [(k, w)])) := kp_but h1 True.intro But.upd
  refine ⟨h1, [(k, w)], rfl, by show 1 ≤ 15; decide, ?_⟩
  have em : mergeK [] [(k, w)] = [(k, w)] := rfl
  rw [em]
  exact kk _ _ _ _ q2 ((k1.trans k2).trans kp) (I2.but h1 True.intro But.upd n0 ns nn N2.ap) ⟨rfl, ⟨p, _, rfl, upd_same, RpD.cons (r2.keep kp) RpD.nil, n0, ns, nn⟩, N2.ap⟩
instance iDispS {x : Str} {t : TE} {T : TD} [r : ∀ C', Ref C' t T] : RefN C (tDisp [(tC (.str x), t)]) (DDisp1 (.inr x) T) := ⟨fun I h k => disp_go (k := .inr x) I h k⟩
instance iDispI {i : Int} {t : TE} {T : TD} [r : ∀ C', Ref C' t T] : RefN C (tDisp [(tC (.int i), t)]) (DDisp1 (.inl i) T) := ⟨fun I h k => disp_go (k := .inl i) I h k⟩
/-- {None: 1} -/
def DNone1 : TD := fun ρ K => K (.dict [(.none, .int 1)]) ρ
instance iNone1 : Ref C (tNone1 [(tC .non, tC (.int 1))]) DNone1 := ⟨fun {σ H Q ρ K} I h k p np => ⟨upd_same, rfl, fun o no sm => by
  have s : Same H (upd (upd H p (.dK [])) p (.frz o (NDh p o))) := fun b u e => by
    have : b ≠ p := fun z => by rw [z, np] at e; cases e
    rw [upd_ne this, upd_ne this]
    exact e
  exact k _ _ _ _ h (Kp.same s) (I.same s) (by
    simp only [Rp]
    exact .inr ⟨trivial, p, o, rfl, upd_same, no, sm⟩)⟩⟩
end
/-! ### (text, text) != (text, text) -/
def RNeT : D2 := fun d e K => ∃ a b a' b', d = .tuple [.str a, .str b] ∧ e = .tuple [.str a', .str b'] ∧ (PyData.strOk a = true ∧ PyData.strOk b = true ∧ PyData.strOk a' = true ∧ PyData.strOk b' = true) ∧ K (.bool (!PyData.eqv d e))
section
variable {X : Cx}
theorem tup_dp {K : PySem.W.Frag} {H : Hp} {a b : Str} {v : V} (r : Rp H (.tuple [.str a, .str b]) v) : Dp K H v (.tuple [.str a, .str b]) := by
  obtain ⟨p, vs, rfl, ha, rl⟩ := rp_tup r
  obtain ⟨x, y, rfl, r1, r2⟩ := rpL2 rl
  cases rp_str r1
  cases rp_str r2
  exact .tup (SqT.of ha) (.cons (.str _) (.cons (.str _) .nil))
theorem dNeT (hu : X.A.units + 64 < cLine) : OpR X (compareOp .NotEq) (rD RNeT) := OpR.of (op_neD hu) fun x y H Q q => by
  obtain ⟨d, e, K, r1, r2, ⟨a, b, a', b', rfl, rfl, ⟨o1, o2, o3, o4⟩, q⟩, k⟩ := q
  have sh : ∀ a b : Str, PyData.strOk a = true → PyData.strOk b = true → SeqAt.shaped (.tuple [.str a, .str b]) = true := fun a b h1 h2 => by
    simp [SeqAt.shaped, PyData.canLay0, PyData.canLayAll0, PyData.depth, PyData.depthAll, h1, h2]
  exact ⟨_, _, tup_dp r1, tup_dp r2, sh _ _ o1 o2, sh _ _ o3 o4, k _ _ _ q (fun _ _ e => e) Rp.bl⟩
theorem eqv_self (a b : Str) : PyData.eqv (.tuple [.str a, .str b]) (.tuple [.str a, .str b]) = true := by
  simp [PyData.eqv, PyData.eqvAll]
end
/-! ### tables -/
theorem tabs_but {T : List (Addr × Str)} {H H' : Hp} {p : Addr} {u : HO} (t : Tabs T H) (hp : H p = some u) (ld : LD u) (s : But p H H') : Tabs T H' := by
  intro q hq
  obtain ⟨ps, h1, h2, h3⟩ := t q hq
  have np : ∀ {b : Addr} {o : HO}, H b = some o → ¬ LD o → b ≠ p := fun e n z => by
    rw [z, hp] at e
    cases e
    exact n ld
  refine ⟨ps, s _ _ (np h1 (fun z => z)) h1, h2, fun pos cv hc => ?_⟩
  obtain ⟨c', e1, e2⟩ := h3 pos cv hc
  exact ⟨c', e1, s _ _ (np e2 (fun z => by unfold CodeO at z; exact z)) e2⟩
theorem tabs_unl {T : List (Addr × Str)} {H : Hp} {p : Addr} {o : Obj} {u : HO} (t : Tabs T H) (hp : H p = some (.frz o u)) : Tabs T (upd H p u) := by
  intro q hq
  obtain ⟨ps, h1, h2, h3⟩ := t q hq
  refine ⟨ps, by rw [upd_ne (ne_of h1 hp (fun z => nomatch z))]; exact h1, h2, fun pos cv hc => ?_⟩
  obtain ⟨c', e1, e2⟩ := h3 pos cv hc
  exact ⟨c', e1, by rw [upd_ne (ne_of e2 hp (fun z => by unfold CodeO at z; cases z))]; exact e2⟩
def noT (H : Hp) : Hp := fun b => match H b with
  | some (.tbl _) => none
  | o => o
theorem noT_some {H : Hp} {b : Addr} {o : HO} (h : noT H b = some o) : H b = some o ∧ ∀ ps, o ≠ .tbl ps := by
  unfold noT at h
  split at h
  · cases h
  · rename_i n
    exact ⟨h, fun ps z => n ps (by rw [h, z])⟩
/-- the frame of a def that draws from a pot and makes lambdas -/
def potT (H : Hp) (p : Addr) (T : List (Addr × Str)) : DC := ⟨noT H, fun b => b = p, fun _ => False, Tabs T, fun H1 H2 s j => j.ext s, fun H1 H2 q u hq ld _ but j => tabs_but j hq ld but, fun H1 q o u hq _ _ j => tabs_unl j hq⟩
theorem DI.extN {H0 : Hp} {p : Addr} {T : List (Addr × Str)} {ρ : DSt} {σ : L2.St} {H H' : Hp} (I : DI (potT H0 p T) ρ σ H) (e : ExtN H H') (t : Tabs T H') : DI (potT H0 p T) ρ σ H' := by
  refine ⟨I.len, fun i dv h => ?_, I.sep, fun b o n h => ?_, fun b hb => ?_, fun b hb => hb.elim, t⟩
  · obtain ⟨w, h1, h2⟩ := I.at_ i dv h
    refine ⟨w, h1, ?_⟩
    cases dv with
    | d x => exact Rp.extN (show Rp H x w from h2) e
    | l xs =>
      obtain ⟨a, vs, e1, h3, h4, h5⟩ := h2
      exact ⟨a, vs, e1, e _ _ h3 (fun _ z => nomatch z), RpL.keep (ExtN.kp e) _ _ h4, h5⟩
    | m xs =>
      obtain ⟨a, vs, e1, h3, h4, h5⟩ := h2
      exact ⟨a, vs, e1, e _ _ h3 (fun _ z => nomatch z), RpD.keep (ExtN.kp e) _ _ h4, h5⟩
    | pot p c =>
      obtain ⟨e1, h3, h4⟩ := h2
      obtain ⟨x, y, z, h5, r⟩ := h3.ex
      exact ⟨e1, ⟨x, y, z, e _ _ h5 (fun _ z => nomatch z), r⟩, h4⟩
    | v x => exact h2
    | o y => exact RpO.keep (ExtN.kp e) y w h2
  · obtain ⟨h1, h2⟩ := noT_some h
    rcases I.fr b o n h with h3 | ⟨ps, ps', h3, h4⟩
    · exact .inl (e _ _ h3 h2)
    · exact absurd h3 (h2 ps)
  · obtain ⟨xs, h⟩ := I.sx b hb
    exact ⟨xs, e _ _ h (fun _ z => nomatch z)⟩
/-! ### a lambda handed over: what is caught -/
def TCaught (C : Addr) (wd : Str) : (XK → Hp → VK → Prop) → Hp → VK → Prop := fun tl H Q => ∀ H1, Same H H1 → ∃ (Qb : VK) (Eb : XK), tl Eb H1 Qb ∧
  (∀ v H', Qb v H' → ∀ p, H' p = none → Q (.ref p) (upd H' p (.tup [.str "told", v]))) ∧
  (∀ cls d H', Eb cls d H' → ∃ dd v, cls = .ref C ∧ d = some dd ∧ H' dd = some (.xd [("value", v)]) ∧ ∀ H'' p, Same H' H'' → H'' p = some (.tup [.str wd, v]) → Q (.ref p) H'')
def DLam (F : DFX) (Cc : Addr) (wd : Str) (TA : TDA) : TD := fun ρ K => TA ρ fun ds ρ1 => F ds (fun d => K (.tuple [.str (Str.ofString "told"), d]) ρ1) (fun Ca d => Ca = Cc ∧ K (.tuple [.str wd, d]) ρ1)
instance iLam {H0 : Hp} {p : Addr} {T : List (Addr × Str)} {F : DFX} {Cc : Addr} {wd : Str} {ta : TA} {TA : TDA} [ra : RefA (potT H0 p T) ta TA] : Ref (potT H0 p T) (tLam T (TCaught Cc wd) fun E => tCall (spX F) [] E ta) (DLam F Cc wd TA) := ⟨fun {σ H Q ρ K} I h k => ⟨I.j, fun H1 eN T1 H2 s2 => by
  have I2 := (I.extN eN T1).same s2
  have k2 : Kp H H2 := (ExtN.kp eN).trans (Kp.same s2)
  refine ⟨fun v H' => ∃ d ρ', K (.tuple [.str (Str.ofString "told"), d]) ρ' ∧ Kp H H' ∧ DI (potT H0 p T) ρ' σ H' ∧ Rp H' d v,
    fun cls dx H' => ∃ dd v d ρ', cls = .ref Cc ∧ dx = some dd ∧ H' dd = some (.xd [("value", v)]) ∧ K (.tuple [.str wd, d]) ρ' ∧ Kp H H' ∧ DI (potT H0 p T) ρ' σ H' ∧ Rp H' d v, ?_, ?_, ?_⟩
  · exact ra.go I2 h fun ds ρ1 ws H3 q1 k1 I3 r1 => ⟨ds, _, _, by rw [List.append_nil]; exact r1, q1, fun d w H4 q2 s4 r4 => ⟨d, ρ1, q2, (k2.trans k1).trans (Kp.same s4), I3.same s4, r4⟩,
      fun Ca d dx w H4 q2 s4 h4 r4 => ⟨dx, w, d, ρ1, by rw [q2.1], rfl, h4, q2.2, (k2.trans k1).trans (Kp.same s4), I3.same s4, r4⟩⟩
  · rintro v H' ⟨d, ρ', q, k', I', r⟩ a na
    exact k _ _ _ _ q (k'.trans (Kp.new na)) (I'.same (same_new na)) (Rp.tup upd_same (RpL.cons Rp.str (RpL.cons (r.same (same_new na)) RpL.nil)))
  · rintro cls dx H' ⟨dd, v, d, ρ', rfl, rfl, hd, q, k', I', r⟩
    refine ⟨dd, v, rfl, rfl, hd, fun H'' a s ha => ?_⟩
    exact k _ _ _ _ q (k'.trans (Kp.same s)) (I'.same s) (Rp.tup ha (RpL.cons Rp.str (RpL.cons (r.same s) RpL.nil)))⟩⟩
/-- a def whose one parameter is the pot, with tables -/
theorem okR {H0 : Hp} {p : Addr} {Ts : List (Addr × Str)} {N : List Str} {c : Int} {t : TS} {T : TDS} {Q : VK} {Kk : PyData → Int → Prop} (rs : RefS (potT H0 p Ts) t T) (hN : 1 ≤ N.length) (hp : PotAt H0 p c) (tb : Tabs Ts H0)
    (q : T { nx := fun ρ => False, rt := fun d ρ => ∃ c', ρ[0]? = some (some (.pot p c')) ∧ Kk d c' } (startP N.length p c []))
    (k : ∀ d c' w H', Kk d c' → (∀ b o, b ≠ p → (∀ ps, o ≠ .tbl ps) → H0 b = some o → H' b = some o) → PotAt H' p c' → Tabs Ts H' → Rp H' d w → Q w H') :
    t { nx := fun _ H' => Q .non H', rt := Q } (L2.start N [.ref p]) H0 := by
  have I0 : DI (potT H0 p Ts) (startP N.length p c []) (L2.start N (.ref p :: [])) H0 := DI.startP hN RpL.nil hp rfl (fun z => z) (fun b o _ e => .inl (noT_some e).1) (fun b hb => by rw [show b = p from hb]; exact hp.ld) (fun b hb => hb.elim) tb
  refine rs.go I0 q (fun _ _ _ z => z.elim) (fun d ρ' w' σ' H' ⟨c', e, q'⟩ _ I r' => ?_) (fun _ _ _ z => z.elim) fun _ _ _ z => z.elim
  obtain ⟨w, hw, rfl, hp', _⟩ := I.at_ 0 _ e
  refine k _ _ _ _ q' (fun b o nb nt eb => ?_) hp' I.j r'
  have e0 : noT H0 b = some o := by
    unfold noT
    rw [eb]
    cases o with
    | tbl ps => exact absurd rfl (nt ps)
    | _ => rfl
  rcases I.fr b o nb e0 with h | ⟨ps, _, rfl, _⟩
  · exact h
  · exact absurd rfl (nt ps)
end Dw
end
section
set_option Elab.async false
set_option linter.all false
set_option maxRecDepth 100000
set_option maxHeartbeats 4000000
/-! Tg, part Zf: match of a text against written texts. -/
namespace Dw
open PySem PySem.Spec PyProof.Rows L2 Tg LamX
/-- a pattern of written texts -/
def PPat (X : Cx) (p : Pattern) (ys : List Str) : Prop := ∀ (pins : List (Addr × Obj)) (s : Shared) (σ : L2.St) (H : Hp) (x : Str) (t : Tok) (Q : Option (List (Str × Value)) → Shared → Prop), Inv X pins σ H s →
  (∀ s', Inv X pins σ H s' → Q (if ys.contains x = true then some [] else none) s') → wpAny (model X.prog X.w) X.A (matchPattern p X.env (.str x t)) Q X.xe s
def PFst (X : Cx) (ps : List Pattern) (ys : List Str) : Prop := ∀ (pins : List (Addr × Obj)) (s : Shared) (σ : L2.St) (H : Hp) (x : Str) (t : Tok) (Q : Option (List (Str × Value)) → Shared → Prop), Inv X pins σ H s →
  (∀ s', Inv X pins σ H s' → Q (if ys.contains x = true then some [] else none) s') → wpAny (model X.prog X.w) X.A (matchFirst ps X.env (.str x t)) Q X.xe s
def armOf (x : Str) : List (List Str × TS) → TS
  | [] => tNext
  | (ys, t) :: r => if ys.contains x = true then t else armOf x r
def tMatch (te : TE) (arms : List (List Str × TS)) : TS := fun D σ H => te σ H fun v H1 => ∃ x, v = .str x ∧ armOf x arms D σ H1
section
variable {X : Cx}
theorem pp_val {y : Str} {j : Nat} {c0 pos : Pos} : PPat X (.MatchValue (.Constant (.str y) j c0) pos) [y] := by
  intro pins s σ H x t Q I q
  refine wpAny_matchPattern_Value (Calls.Constant_str ?_)
  refine thn (op_eq pins { s with toks := s.toks + 1 } σ H (.str x) (.str y) _ _ (fun v H' => v = .bl (decide (x = y)) ∧ H' = H) (I.tok _) ⟨_, rfl⟩ ⟨_, rfl⟩ ⟨rfl, ?_, rfl⟩) fun c s2 ⟨z, H2, I2, r2, e, eH⟩ => ?_
  · simp
  subst e
  cases r2
  refine wpAny_truthy_bool ?_
  rw [eH] at I2
  have := q s2 I2
  by_cases h : x = y
  · simpa [h] using this
  · simpa [h] using this
theorem pf_nil : PFst X [] [] := by
  intro pins s σ H x t Q I q
  exact wpAny_matchFirst_nil (q s I)
theorem pf_cons {p : Pattern} {ps : List Pattern} {ys zs : List Str} (hp : PPat X p ys) (hr : PFst X ps zs) : PFst X (p :: ps) (ys ++ zs) := by
  intro pins s σ H x t Q I q
  refine wpAny_matchFirst_cons (hp pins s σ H x t _ I fun s' I' => ?_)
  cases h : ys.contains x with
  | true =>
    have := q s' I'
    simp only [List.contains_append, h, Bool.true_or, if_true] at this ⊢
    exact this
  | false =>
    simp only [Bool.false_eq_true, if_false]
    refine hr pins s' σ H x t Q I' fun s2 I2 => ?_
    have := q s2 I2
    simpa only [List.contains_append, h, Bool.false_or] using this
theorem pp_or {ps : List Pattern} {pos : Pos} {ys : List Str} (hf : PFst X ps ys) : PPat X (.MatchOr ps pos) ys := by
  intro pins s σ H x t Q I q
  refine wpAny_matchPattern_Or (hf pins s σ H x t _ I fun s' I' => ?_)
  have := q s' I'
  have fm : ∀ l : List Str, l.filterMap (fun _ => (none : Option (Str × Value))) = [] := fun l => by
    induction l with
    | nil => rfl
    | cons a r ih => simpa using ih
  cases h : ys.contains x with
  | true =>
    rw [h] at this
    simp only [if_true, List.lookup_nil, Option.map_none, fm] at this ⊢
    exact this
  | false =>
    rw [h] at this
    simpa using this
structure PMs (X : Cx) (cases : List MatchCase) (arms : List (List Str × TS)) : Prop where
  run : ∀ (pins : List (Addr × Obj)) (s : Shared) (σ : L2.St) (H : Hp) (D : Ends) (x : Str) (t : Tok) (first : Bool), Inv X pins σ H s → armOf x arms D σ H → wpAny (model X.prog X.w) X.A (matchCases cases X.env (.str x t) first) (SP X pins D) X.xe s
theorem pm_nil : PMs X [] [] := ⟨fun pins s σ H D x t first I h => wpAny_matchCases_nil ⟨σ, H, I, h⟩⟩
theorem pm_cons {p : Pattern} {ys : List Str} {body : List Stmt} {t : TS} {rest : List MatchCase} {arms : List (List Str × TS)} (hp : PPat X p ys) (hb : PSs X body t) (hr : PMs X rest arms) : PMs X (⟨p, none, body⟩ :: rest) ((ys, t) :: arms) := by
  refine ⟨fun pins s σ H D x tk first I h => ?_⟩
  refine wpAny_matchCases_cons (hp pins s σ H x tk _ I fun s' I' => ?_)
  unfold armOf at h
  cases q : ys.contains x with
  | true =>
    rw [q] at h
    simp only [if_true] at h ⊢
    exact wpAny_assignInOrder_none (hb.run pins s' σ H D I' h)
  | false =>
    rw [q] at h
    simp only [Bool.false_eq_true, if_false] at h ⊢
    exact hr.run pins s' σ H D x tk false I' h
theorem ps_match {e : Expr} {te : TE} {cases : List MatchCase} {arms : List (List Str × TS)} {pos : Pos} (he : PE X e te) (hm : PMs X cases arms) : PS X (.Match e cases pos) (tMatch te arms) := by
  refine ⟨fun pins s σ H D I h => ?_⟩
  refine wpAny_Match (thn (he.run pins s σ H _ I h) fun v s1 ⟨x, H1, I1, r1, y, ey, q1⟩ => ?_)
  subst ey
  obtain ⟨t, rfl⟩ := r1
  exact hm.run pins s1 σ H1 D y t true I1 q1
end
/-! ### by data -/
def DArms (x : Str) : List (List Str × TDS) → TDS
  | [] => DNext
  | (ys, t) :: r => if ys.contains x = true then t else DArms x r
def DMatch (T : TD) (arms : List (List Str × TDS)) : TDS := fun DD ρ => T ρ fun d ρ1 => isS d fun x => DArms x arms DD ρ1
section
variable {C : DC}
class RefM (C : DC) (arms : List (List Str × TS)) (Arms : outParam (List (List Str × TDS))) : Prop where
  go : ∀ x, RefS C (armOf x arms) (DArms x Arms)
instance imNil : RefM C [] [] := ⟨fun x => (inferInstance : RefS C tNext DNext)⟩
instance imCons {ys : List Str} {t : TS} {T : TDS} {arms : List (List Str × TS)} {Arms : List (List Str × TDS)} [r : RefS C t T] [s : RefM C arms Arms] : RefM C ((ys, t) :: arms) ((ys, T) :: Arms) := ⟨fun x => by
  unfold armOf DArms
  cases ys.contains x with
  | true => exact r
  | false => exact s.go x⟩
instance iMatch {t : TE} {T : TD} {arms : List (List Str × TS)} {Arms : List (List Str × TDS)} [r : Ref C t T] [s : RefM C arms Arms] : RefS C (tMatch t arms) (DMatch T Arms) := ⟨fun {D σ H ρ DD} I h n rt bk ct =>
  r.go I h fun d ρ1 w H1 q1 k1 I1 r1 => by
    obtain ⟨x, rfl, q2⟩ := isS_go q1
    refine ⟨x, rp_str r1, (s.go x).go I1 q2 (fun ρ' σ' H' q kk I' => n _ _ _ q (k1.trans kk) I') (fun d ρ' w' σ' H' q kk I' r' => rt _ _ _ _ _ q (k1.trans kk) I' r') (fun ρ' σ' H' q kk I' => bk _ _ _ q (k1.trans kk) I') fun ρ' σ' H' q kk I' => ct _ _ _ q (k1.trans kk) I'⟩⟩
end
end Dw
end
section
set_option Elab.async false
set_option linter.all false
set_option maxRecDepth 100000
set_option maxHeartbeats 4000000
/-! Tg, part Zg: Dw: a.split(b), sorted(texts), [*a, ..]. -/
namespace Dw
open PySem PySem.Spec PyProof.Rows L2 Tg LamX
def NSplit : PyData → LL := fun x ds K => isS x fun a => on1 ds fun d => isS d fun b => (b.length == 0) = false ∧ a.length + 2 ≤ 16777216 ∧ K ((Txt.split a b).map .str)
def NSortedS : LL := fun ds K => on1 ds fun d => isL d fun xs => ∃ ys : List Str, xs = ys.map .str ∧ ys.length < 64 ∧ ∀ zs : List Str, zs.Perm ys → sortedS zs = true → K (zs.map .str)
section
variable {X : Cx}
theorem mSplit : MtR X "str.split" (mN NSplit) := MtR.of mt_split fun x xs H Q q => by
  obtain ⟨d, ds, K, r, rl, q, k⟩ := q
  obtain ⟨a, rfl, q1⟩ := isS_go q
  obtain ⟨e, rfl, q2⟩ := on1_go q1
  obtain ⟨b, rfl, h1, h2, q3⟩ := isS_go q2
  obtain ⟨y, rfl, r1⟩ := rpL1 rl
  cases rp_str r
  cases rp_str r1
  exact ⟨a, b, rfl, rfl, h1, by rw [sizeLine_eq]; exact h2, fun p np => k _ _ _ q3 ⟨_, np, rfl, rpL_strs_of⟩⟩
theorem dSortedS : CallR X (.builtin "sorted") (cN NSortedS) := CallR.of cr_sortedS fun x H Q q => by
  obtain ⟨ds, K, r, q, k⟩ := q
  obtain ⟨d, rfl, q1⟩ := on1_go q
  obtain ⟨xs, rfl, ys, rfl, h64, q2⟩ := isL_go q1
  obtain ⟨x, rfl, r1⟩ := rpL1 r
  obtain ⟨a, o, vs, rfl, ha, rl⟩ := rp_list r1
  cases rpL_strs rl
  exact ⟨a, ys, rfl, .inl (.inr ⟨o, ha⟩), h64, fun zs p pm so np => k _ _ _ (q2 zs pm so) ⟨_, np, rfl, rpL_strs_of⟩⟩
end
/-- *e, .. -/
def DStar (T : TD) (TA : TDA) : TDA := fun ρ K => T ρ fun d ρ1 => match d with
  | .list xs => TA ρ1 fun ds ρ2 => K (xs ++ ds) ρ2
  | .tuple xs => TA ρ1 fun ds ρ2 => K (xs ++ ds) ρ2
  | _ => False
section
variable {C : DC} {Kf : PySem.W.Frag}
instance iStar {t : TE} {T : TD} {ta : TA} {TA : TDA} [r : Ref C t T] [s : RefA C ta TA] : RefA C (StX.tStar Kf t ta) (DStar T TA) := ⟨fun {σ H Q ρ K} I h k =>
  r.go I h fun d ρ1 w H1 q1 k1 I1 r1 => by
    cases d with
    | list xs =>
      obtain ⟨a, o, vs, rfl, ha, rl⟩ := rp_list r1
      exact ⟨a, vs, rfl, .inr (.inl (.inr ⟨o, ha⟩)), s.go I1 q1 fun ds ρ2 ws H2 q2 k2 I2 r2 => k _ _ _ _ q2 (k1.trans k2) I2 (rpL_append (RpL.keep k2 _ _ rl) r2)⟩
    | tuple xs =>
      obtain ⟨a, vs, rfl, ha, rl⟩ := rp_tup r1
      exact ⟨a, vs, rfl, .inl (SqT.of ha), s.go I1 q1 fun ds ρ2 ws H2 q2 k2 I2 r2 => k _ _ _ _ q2 (k1.trans k2) I2 (rpL_append (RpL.keep k2 _ _ rl) r2)⟩
    | _ => exact q1.elim⟩
end
end Dw
end
section
set_option Elab.async false
set_option linter.all false
set_option maxRecDepth 100000
set_option maxHeartbeats 4000000
/-! Tg, part Zh: Dw: {k: v for ..}, keys texts. -/
namespace Dw
open PySem PySem.Spec PyProof.Rows L2 Tg LamX
/-- the turns of a dict comprehension, one by one -/
theorem dc_it {J : It} {n : Nat} {G : Hp → Prop} {Y : Nat → Hp → V → Hp → Prop} (w : Walk J n G Y) {g : TG} {tt : TT} {tk tv : TE} {vs : List Nat} {σ : L2.St} {H1 : Hp} {D : Addr} {Qd : Hp → Prop} (Pv : Nat → Hp → Prop) (h0 : Pv 0 (upd H1 D (.dK []))) (hG : ∀ i H, i ≤ n → Pv i H → G H)
    (hs : ∀ i x H H', i < n → Pv i H → Y i H x H' → g x (wipe σ vs) H' fun σ2 H2 => wipe σ2 vs = wipe σ vs ∧ tt σ2 H2 fun b H3 =>
      if b = true then tk σ2 H3 fun y H4 => tv σ2 H4 fun z H5 => ∃ kvs k, y = kV k ∧ H5 D = some (.dK kvs) ∧ kvs.length < sizeLine ∧ Pv (i + 1) (upd H5 D (.dK (putK kvs k z))) else Pv (i + 1) H3) (hd : ∀ H, Pv n H → Qd H) :
    ∃ W : Nat → Nat → Hp → Prop, (∃ m, W 0 m (upd H1 D (.dK []))) ∧ ∀ i m H, W i m H →
      (J.stop i H ∧ Qd H) ∨ (J.go i H ∧ ∃ Nx : Hp → Prop, (∀ H', Nx H' → ∃ m', m' < m ∧ W (i + 1) m' H') ∧ ∀ x H', J.yld i H x H' → g x (wipe σ vs) H' fun σ2 H2 => wipe σ2 vs = wipe σ vs ∧ tt σ2 H2 fun b H3 =>
        if b = true then tk σ2 H3 fun y H4 => tv σ2 H4 fun z H5 => ∃ kvs k, y = kV k ∧ H5 D = some (.dK kvs) ∧ kvs.length < sizeLine ∧ Nx (upd H5 D (.dK (putK kvs k z))) else Nx H3) := by
  refine ⟨fun i m H => m = n - i ∧ i ≤ n ∧ Pv i H, ⟨n, by simp, Nat.zero_le _, h0⟩, ?_⟩
  rintro i m H ⟨rfl, hi, p⟩
  have q := hG i H hi p
  by_cases hlt : i < n
  · exact .inr ⟨w.goes i H hlt q, Pv (i + 1), fun H' p' => ⟨n - (i + 1), by omega, rfl, hlt, p'⟩, fun x H' y => hs i x H H' hlt p (w.yields i H x H' hlt q y)⟩
  · have e : i = n := by omega
    subst e
    exact .inl ⟨w.stops H q, hd H p⟩
def DcB (items : List PyData) (G : TDG) (ts : List Nat) (TT : TDT) (TK TV : TD) (vs : List Nat) (ρ1 : DSt) (K : DV → DSt → Prop) : Prop := items.length ≤ 100000 ∧ ts.all (vs.contains ·) = true ∧ ∃ W : Nat → List (Str × PyData) → DSt → Prop, W 0 [] (wipeD ρ1 vs) ∧
  (∀ i x acc ρ, items[i]? = some x → W i acc ρ → G x ρ fun ρ2 => TT ρ2 fun b ρ3 => if b = true then TK ρ3 fun kd ρ4 => isS kd fun y => TV ρ4 fun d ρ5 => W (i + 1) (putP acc y d) (wipeD ρ5 vs) else W (i + 1) acc (wipeD ρ3 vs)) ∧ ∀ acc ρ, W items.length acc ρ → K (.m (strP acc)) ρ
def DDc (T : TDI) (G : TDG) (ts : List Nat) (TT : TDT) (TK TV : TD) (vs : List Nat) : TN := fun ρ K => T ρ fun items ρ1 => DcB items G ts TT TK TV vs ρ1 K
theorem putP_len {acc : List (Str × PyData)} {x : Str} {d : PyData} : (putP acc x d).length ≤ acc.length + 1 := by
  unfold putP
  split
  · rw [List.length_map]
    omega
  · simp
section
variable {C : DC}
instance iDc {wi : TI} {g : TG} {tt : TT} {tk tv : TE} {vs ts : List Nat} {T : TDI} {G : TDG} {TT : TDT} {TK TV : TD} [r : RefI C wi T] [s : ∀ C', RefG C' g G ts] [s1 : ∀ C', RefT C' tt TT] [sk : ∀ C', Ref C' tk TK] [s2 : ∀ C', Ref C' tv TV] : RefN C (tDc wi g tt tk tv vs) (DDc T G ts TT TK TV vs) := ⟨fun {σ H Q ρ K} I h k =>
  r.go I h fun items ρ1 J H1 q1 k1 I1 wd D nD => by
    obtain ⟨hl, hts, W, w0, hs, hd⟩ := q1
    obtain ⟨Gg, Y, wk, hG, hY⟩ := wd.ex
    obtain ⟨n0, ns, nn⟩ := I1.h0 nD
    have I1w : DI C (wipeD ρ1 vs) (wipe σ vs) (upd H1 D (.dK [])) := (I1.wiped (σ' := wipe σ vs) wipe_wipe.symm).same (same_new nD)
    have ap0 : ∀ (i : Nat) y, (wipeD ρ1 vs)[i]? = some (some y) → y.mt = true → (wipe σ vs)[i]? ≠ some (some (.ref D)) := (I1.wiped (σ' := wipe σ vs) wipe_wipe.symm).apart nD
    refine dc_it wk (fun i H' => ∃ ρ' acc ks, acc.length ≤ i ∧ DI (C.hold D (.dK ks) nn) ρ' (wipe σ vs) H' ∧ RpD H' (strP acc) ks ∧ Kp H1 H' ∧ W i acc ρ' ∧ wipeD ρ' vs = ρ') ⟨_, [], [], Nat.le_refl _, I1w.hold upd_same ap0, RpD.nil, Kp.new nD, w0, wipeD_wipeD⟩ (fun i H' _ ⟨_, _, _, _, _, _, k, _⟩ => hG H' k) ?_ ?_
    · rintro i x H2 H3 hi ⟨ρ2, acc, ks, la, I2, ra, k2, w2, e2⟩ y
      obtain ⟨s3, d, hd, rd⟩ := hY i H2 x H3 hi k2 y
      have k3 := k2.trans (Kp.same s3)
      refine (s _).go (I2.same s3) rd (hs i d acc ρ2 hd w2) fun ρ4 σ4 H4 q4 k4 I4 t4 => ⟨wipe_tch t4 hts, ?_⟩
      have wt := wipe_tch t4 hts
      refine (s1 _).go I4 q4 fun b ρ5 H5 q5 k5 I5 => ?_
      have k15 := (k3.trans k4).trans k5
      have ra5 : RpD H5 (strP acc) ks := RpD.keep (((Kp.same s3).trans k4).trans k5) _ _ ra
      cases b with
      | true =>
        refine (sk _).go I5 q5 fun kd ρk wk' Hk qk kk Ik rk => ?_
        obtain ⟨kx, rfl, qk⟩ := isS_go qk
        refine (s2 _).go Ik qk fun z ρ6 w6 H6 q6 k6 I6 r6 => ?_
        obtain ⟨J6, hD6, ap6⟩ := I6.unhold
        have J7 := J6.wiped (vs := vs) (σ' := wipe σ vs) (by rw [wt, wipe_wipe])
        have ap7 : ∀ (i : Nat) y, (wipeD ρ6 vs)[i]? = some (some y) → y.mt = true → (wipe σ vs)[i]? ≠ some (some (.ref D)) := fun i y e m => by
          obtain ⟨e1, e2⟩ := wipeD_some e
          rw [← wt, wipe_ne e2]
          exact ap6 i y e1 m
        have kD := kp_but hD6 True.intro (But.upd (p := D) (H := H6) (o := .dK (putK ks (.inr kx) w6)))
        have J8 := J7.but hD6 True.intro (But.upd (o := .dK (putK ks (.inr kx) w6))) n0 ns nn ap7
        have pr := rpP (RpD.keep (kk.trans k6) _ _ ra5)
        have lk : acc.length = ks.length := Paired.length pr
        refine ⟨ks, .inr kx, rp_str rk, hD6, ?_, _, putP acc kx z, putK ks (.inr kx) w6, ?_, J8.hold upd_same ap7, RpD.keep kD _ _ (rpP_of (pair_put pr r6)), ((k15.trans kk).trans k6).trans kD, q6, wipeD_wipeD⟩
        · rw [← lk, sizeLine_eq]
          omega
        · have := putP_len (acc := acc) (x := kx) (d := z)
          omega
      | false =>
        obtain ⟨J6, hD6, ap6⟩ := I5.unhold
        have J7 := J6.wiped (vs := vs) (σ' := wipe σ vs) (by rw [wt, wipe_wipe])
        have ap7 : ∀ (i : Nat) y, (wipeD ρ5 vs)[i]? = some (some y) → y.mt = true → (wipe σ vs)[i]? ≠ some (some (.ref D)) := fun i y e m => by
          obtain ⟨e1, e2⟩ := wipeD_some e
          rw [← wt, wipe_ne e2]
          exact ap6 i y e1 m
        exact ⟨_, acc, ks, by omega, J7.hold hD6 ap7, ra5, k15, q5, wipeD_wipeD⟩
    · rintro H2 ⟨ρ2, acc, ks, la, I2, ra, k2, w2, e2⟩
      obtain ⟨J2, hD2, ap2⟩ := I2.unhold
      have J3 := J2.wiped (vs := vs) (σ' := σ) wipe_wipe
      rw [e2] at J3
      refine k _ _ _ _ (hd acc ρ2 w2) (k1.trans k2) J3 ⟨rfl, ⟨D, ks, rfl, hD2, ra, n0, ns, nn⟩, fun i y e m => ?_⟩
      rw [← e2] at e
      obtain ⟨e1, e3⟩ := wipeD_some e
      rw [← wipe_ne e3]
      exact ap2 i y e1 m⟩
end
end Dw
end
section
set_option Elab.async false
set_option linter.all false
set_option maxRecDepth 100000
set_option maxHeartbeats 4000000
/-! Tg, part Zi: Dw: an own list or dict is locked while one expression is asked. -/
namespace Dw
open PySem PySem.Spec PyProof.Rows L2 Tg LamX
mutual
/-- nothing in it is a list (l), a dict (m) -/
def noC (l m : Bool) : PyData → Bool
  | .list ds => !l && noCL l m ds
  | .tuple ds => noCL l m ds
  | .dict kds => !m && noCK l m kds
  | .none | .bool _ | .int _ | .str _ => true
def noCL (l m : Bool) : List PyData → Bool
  | [] => true
  | d :: ds => noC l m d && noCL l m ds
def noCK (l m : Bool) : List (PyData × PyData) → Bool
  | [] => true
  | (k, d) :: r => noC l m d && noCK l m r
end
section
variable {H : Hp} {p : Addr} {o : Obj} {u : HO} {l m : Bool}
mutual
theorem Rp.unl (hp : H p = some (.frz o u)) (hl : l = false → ∀ xs, u ≠ .lst xs) (hm : m = false → (∀ ks, u ≠ .dK ks) ∧ ∀ a ob, u ≠ NDh a ob) : ∀ (d : PyData) (v : V), noC l m d = true → Rp H d v → Rp (upd H p u) d v
  | .none, v, _, h => by simpa only [Rp] using h
  | .bool b, v, _, h => by simpa only [Rp] using h
  | .int i, v, _, h => by simpa only [Rp] using h
  | .str x, v, _, h => by simpa only [Rp] using h
  | .list ds, v, n, h => by
    simp only [noC, Bool.and_eq_true, Bool.not_eq_true'] at n
    simp only [Rp] at h ⊢
    obtain ⟨a, o', xs, e, ha, r⟩ := h
    refine ⟨a, o', xs, e, ?_, RpL.unl hp hl hm ds xs n.2 r⟩
    rw [upd_ne (fun z => by rw [z, hp] at ha; cases ha; exact hl n.1 _ rfl)]
    exact ha
  | .tuple ds, v, n, h => by
    simp only [noC] at n
    simp only [Rp] at h ⊢
    obtain ⟨a, xs, e, ha, r⟩ := h
    exact ⟨a, xs, e, by rw [upd_ne (ne_of ha hp (fun z => nomatch z))]; exact ha, RpL.unl hp hl hm ds xs n r⟩
  | .dict kds, v, n, h => by
    simp only [noC, Bool.and_eq_true, Bool.not_eq_true'] at n
    simp only [Rp] at h ⊢
    rcases h with ⟨a, o', kvs, e, ha, r⟩ | ⟨e0, a, o', e, ha, q⟩
    · refine .inl ⟨a, o', kvs, e, ?_, RpD.unl hp hl hm kds kvs n.2 r⟩
      rw [upd_ne (fun z => by rw [z, hp] at ha; cases ha; exact (hm n.1).1 _ rfl)]
      exact ha
    · refine .inr ⟨e0, a, o', e, ?_, q⟩
      rw [upd_ne (fun z => by rw [z, hp] at ha; injection ha with ha; injection ha with _ ha; exact (hm n.1).2 _ _ ha)]
      exact ha
theorem RpL.unl (hp : H p = some (.frz o u)) (hl : l = false → ∀ xs, u ≠ .lst xs) (hm : m = false → (∀ ks, u ≠ .dK ks) ∧ ∀ a ob, u ≠ NDh a ob) : ∀ (ds : List PyData) (xs : List V), noCL l m ds = true → RpL H ds xs → RpL (upd H p u) ds xs
  | [], xs, _, h => by simpa only [RpL] using h
  | d :: ds, xs, n, h => by
    simp only [noCL, Bool.and_eq_true] at n
    simp only [RpL] at h ⊢
    obtain ⟨x, r, e, h1, h2⟩ := h
    exact ⟨x, r, e, Rp.unl hp hl hm d x n.1 h1, RpL.unl hp hl hm ds r n.2 h2⟩
theorem RpD.unl (hp : H p = some (.frz o u)) (hl : l = false → ∀ xs, u ≠ .lst xs) (hm : m = false → (∀ ks, u ≠ .dK ks) ∧ ∀ a ob, u ≠ NDh a ob) : ∀ (kds : List (PyData × PyData)) (kvs : List (Key × V)), noCK l m kds = true → RpD H kds kvs → RpD (upd H p u) kds kvs
  | [], xs, _, h => by simpa only [RpD] using h
  | (ky, d) :: ds, xs, n, h => by
    simp only [noCK, Bool.and_eq_true] at n
    simp only [RpD] at h ⊢
    obtain ⟨kk, v, r, e, h0, h1, h2⟩ := h
    exact ⟨kk, v, r, e, h0, Rp.unl hp hl hm d v n.1 h1, RpD.unl hp hl hm ds r n.2 h2⟩
end
end
/-- the slots behind such an expression -/
def pickS : Option DV → Option DV → Option DV
  | _, some (.pot p c) => some (.pot p c)
  | some (.l _), _ => none
  | some (.m _), _ => none
  | some (.pot _ _), _ => none
  | a, _ => a
def restS : Nat → DV → DSt → DSt → DSt
  | _, _, [], _ => []
  | _, _, _ :: _, [] => []
  | 0, v, _ :: r, _ :: s => some v :: List.zipWith pickS r s
  | i + 1, v, a :: r, b :: s => pickS a b :: restS i v r s
theorem pickS_some {a b : Option DV} {y : DV} (h : pickS a b = some y) : (∃ p c, y = .pot p c ∧ b = some y) ∨ (y.mt = false ∧ a = some y) := by
  unfold pickS at h
  split at h
  · cases h
    exact .inl ⟨_, _, rfl, rfl⟩
  · cases h
  · cases h
  · cases h
  · rename_i h2 h3 h4 h5
    subst h
    refine .inr ⟨?_, rfl⟩
    cases y with
    | l xs => exact absurd rfl (h2 xs)
    | m xs => exact absurd rfl (h3 xs)
    | pot p c => exact absurd rfl (h4 p c)
    | _ => rfl
theorem zip_pick : ∀ {r s : DSt} {j : Nat} {y : DV}, (List.zipWith pickS r s)[j]? = some (some y) → (∃ p c, y = .pot p c ∧ s[j]? = some (some y)) ∨ (y.mt = false ∧ r[j]? = some (some y))
  | [], s, j, y, h => by simp at h
  | a :: r, [], j, y, h => by simp at h
  | a :: r, b :: s, 0, y, h => by
    simp only [List.zipWith_cons_cons, List.getElem?_cons_zero, Option.some.injEq] at h ⊢
    rcases pickS_some h with ⟨p, c, e, q⟩ | ⟨e, q⟩
    · exact .inl ⟨p, c, e, q⟩
    · exact .inr ⟨e, q⟩
  | a :: r, b :: s, j + 1, y, h => by
    simp only [List.zipWith_cons_cons, List.getElem?_cons_succ] at h ⊢
    exact zip_pick h
theorem restS_some : ∀ {i : Nat} {v : DV} {r s : DSt} {j : Nat} {y : DV}, (restS i v r s)[j]? = some (some y) → (j = i ∧ y = v) ∨ (j ≠ i ∧ ((∃ p c, y = .pot p c ∧ s[j]? = some (some y)) ∨ (y.mt = false ∧ r[j]? = some (some y))))
  | i, v, [], s, j, y, h => by simp [restS] at h
  | i, v, a :: r, [], j, y, h => by simp [restS] at h
  | 0, v, a :: r, b :: s, 0, y, h => by
    simp only [restS, List.getElem?_cons_zero, Option.some.injEq] at h
    exact .inl ⟨rfl, h.symm⟩
  | 0, v, a :: r, b :: s, j + 1, y, h => by
    simp only [restS, List.getElem?_cons_succ] at h ⊢
    exact .inr ⟨by omega, zip_pick h⟩
  | i + 1, v, a :: r, b :: s, 0, y, h => by
    simp only [restS, List.getElem?_cons_zero, Option.some.injEq] at h ⊢
    refine .inr ⟨by omega, ?_⟩
    rcases pickS_some h with ⟨p, c, e, q⟩ | ⟨e, q⟩
    · exact .inl ⟨p, c, e, q⟩
    · exact .inr ⟨e, q⟩
  | i + 1, v, a :: r, b :: s, j + 1, y, h => by
    simp only [restS, List.getElem?_cons_succ] at h ⊢
    rcases restS_some h with ⟨e, q⟩ | ⟨e, q⟩
    · exact .inl ⟨by omega, q⟩
    · exact .inr ⟨by omega, q⟩
theorem restS_length : ∀ {i : Nat} {v : DV} {r s : DSt}, r.length = s.length → (restS i v r s).length = r.length
  | i, v, [], s, h => by simp [restS]
  | i, v, a :: r, [], h => by simp at h
  | 0, v, a :: r, b :: s, h => by
    simp only [List.length_cons, Nat.add_right_cancel_iff] at h
    simp [restS, h]
  | i + 1, v, a :: r, b :: s, h => by
    simp only [List.length_cons, Nat.add_right_cancel_iff] at h
    simp only [restS, List.length_cons, restS_length h]
def DPeek1 (i : Nat) (T : TD) : TD := fun ρ K => match ρ[i]? with
  | some (some (.l xs)) => T (ρ.set i (some (.d (.list xs)))) fun d ρ' => noC true false d = true ∧ K d (restS i (.l xs) ρ ρ')
  | some (some (.m xs)) => T (ρ.set i (some (.d (.dict xs)))) fun d ρ' => noC false true d = true ∧ K d (restS i (.m xs) ρ ρ')
  | _ => False
def tLk (i : Nat) (t : TE) : TE := tLockE t
section
variable {X : Cx}
theorem pe_lk {e : Expr} {t : TE} (i : Nat) (h : PE X e t) : PE X e (tLk i t) := pe_lock h
end
section
variable {C : DC}
theorem peek_go {i : Nat} {ρ ρ1 : DSt} {σ : L2.St} {H H1 H2 : Hp} {a : Addr} {u : HO} {ob : Obj} {dv : DV} (I : DI C ρ σ H) (e0 : ρ[i]? = some (some dv)) (ow : dv.ow = true) (hw : σ[i]? = some (some (.ref a))) (ha : H a = some u) (ld : LD u) (n0 : C.H0 a = none) (ns : ¬ C.S a) (nn : ¬ C.N a)
    (hdv : ∀ H', Kp H H' → H' a = some u → Dv C H' dv (.ref a)) (e1 : H1 = upd H a (.frz ob u)) (k2 : Kp H1 H2) (I2 : DI C ρ1 σ H2) : H2 a = some (.frz ob u) ∧ Kp H (upd H2 a u) ∧ DI C (restS i dv ρ ρ1) σ (upd H2 a u) := by
  subst e1
  have h2 : H2 a = some (.frz ob u) := k2.fz _ _ _ upd_same
  have nf : ∀ o' u', u ≠ .frz o' u' := fun o' u' z => by rw [z] at ld; exact ld
  have nt : ∀ xs, u ≠ .tup xs := fun xs z => by rw [z] at ld; exact ld
  have ni : ∀ c d f, u ≠ .ins c d f := fun c d f z => by rw [z] at ld; exact ld
  have kp : Kp H (upd H2 a u) := by
    refine ⟨fun b o' w q => ?_, fun b xs q => ?_, fun b c d f q => ?_⟩
    · have ne := ne_of q ha (fun z => nf _ _ z.symm)
      rw [upd_ne ne]
      exact k2.fz _ _ _ (by rw [upd_ne ne]; exact q)
    · have ne := ne_of q ha (fun z => nt _ z.symm)
      rw [upd_ne ne]
      exact k2.tu _ _ (by rw [upd_ne ne]; exact q)
    · have ne := ne_of q ha (fun z => ni _ _ _ z.symm)
      rw [upd_ne ne]
      exact k2.ins _ _ _ _ (by rw [upd_ne ne]; exact q)
  have potne : ∀ {j : Nat} {p : Addr} {c : Int}, ρ1[j]? = some (some (.pot p c)) → σ[j]? = some (some (.ref p)) ∧ PotAt H2 p c ∧ (C.S p ∨ C.H0 p = none) ∧ ¬ C.N p ∧ p ≠ a := fun {j p c} e => by
    obtain ⟨w, h1, h3, h4, h5, h6⟩ := I2.at_ j _ e
    subst h3
    obtain ⟨xs, h7⟩ := h4.ld
    exact ⟨h1, h4, h5, h6, ne_of h7 h2 (fun z => nomatch z)⟩
  refine ⟨h2, kp, ⟨?_, fun j y e => ?_, fun j k x y w ej ek mx my hj hk => ?_, fun b o' n q => ?_, fun b hb => ?_, fun b hb => ?_, C.ju _ _ _ _ h2 ld nn I2.j⟩⟩
  · rw [restS_length (by rw [I.len, I2.len]), I.len]
  · rcases restS_some e with ⟨rfl, rfl⟩ | ⟨ne, ⟨p, c, rfl, q⟩ | ⟨mt, q⟩⟩
    · exact ⟨_, hw, hdv _ kp upd_same⟩
    · obtain ⟨h1, h4, h5, h6, h7⟩ := potne q
      obtain ⟨x, y, z, h8, h9⟩ := h4.ex
      exact ⟨_, h1, rfl, ⟨x, y, z, by rw [upd_ne h7]; exact h8, h9⟩, h5, h6⟩
    · obtain ⟨w, h1, h3⟩ := I.at_ j _ q
      refine ⟨w, h1, ?_⟩
      cases y with
      | d x => exact Rp.keep kp _ _ h3
      | v x => exact h3
      | o x => exact RpO.keep kp _ _ h3
      | l xs => cases mt
      | m xs => cases mt
      | pot p c => cases mt
  · rcases restS_some ej with ⟨rfl, rfl⟩ | ⟨ne, ⟨p, c, rfl, q⟩ | ⟨mt, q⟩⟩
    · rcases restS_some ek with ⟨rfl, rfl⟩ | ⟨ne2, ⟨p, c, rfl, q⟩ | ⟨mt, q⟩⟩
      · rfl
      · obtain ⟨h1, _, _, _, h7⟩ := potne q
        rw [hw] at hj
        cases hj
        rw [h1] at hk
        cases hk
        exact absurd rfl h7
      · rw [mt] at my
        cases my
    · obtain ⟨h1, _, _, _, h7⟩ := potne q
      rcases restS_some ek with ⟨rfl, rfl⟩ | ⟨ne2, ⟨p2, c2, rfl, q2⟩ | ⟨mt, q2⟩⟩
      · rw [hw] at hk
        cases hk
        rw [h1] at hj
        cases hj
        exact absurd rfl h7
      · exact I2.sep j k _ _ w q q2 rfl rfl hj hk
      · rw [mt] at my
        cases my
    · rw [mt] at mx
      cases mx
  · have ne : b ≠ a := fun z => by rw [z, n0] at q; cases q
    rcases I2.fr b o' n q with h | ⟨ps, ps', h3, h4⟩
    · exact .inl (by rw [upd_ne ne]; exact h)
    · exact .inr ⟨ps, ps', h3, by rw [upd_ne ne]; exact h4⟩
  · obtain ⟨xs, h⟩ := I2.sx b hb
    exact ⟨xs, by rw [upd_ne (show b ≠ a from fun z => ns (z ▸ hb))]; exact h⟩
  · obtain ⟨xs, h⟩ := I2.nx b hb
    exact ⟨xs, by rw [upd_ne (show b ≠ a from fun z => nn (z ▸ hb))]; exact h⟩
instance iPeek1 {i : Nat} {t : TE} {T : TD} [r : Ref C t T] : Ref C (tLk i t) (DPeek1 i T) := ⟨fun {σ H Q ρ K} I h k => by
  unfold DPeek1 at h
  split at h
  · rename_i xs e0
    obtain ⟨w, hw, a, vs, rfl, ha, rl, n0, ns, nn⟩ := I.at_ i _ e0
    refine ⟨a, _, ha, True.intro, fun ob => ?_⟩
    have I1 : DI C (ρ.set i (some (.d (.list xs)))) σ (upd H a (.frz ob (.lst vs))) := by
      have kp := kp_but ha True.intro (But.upd (p := a) (H := H) (o := .frz ob (.lst vs)))
      have I2 := (I.forget i).but ha True.intro (But.upd (o := .frz ob (.lst vs))) n0 ns nn (DI.own I e0 hw rfl)
      have I3 := I2.tell (i := i) (dv := .d (.list xs)) hw (Rp.lst upd_same (RpL.keep kp _ _ rl)) fun z => nomatch z
      rw [set_set] at I3
      exact I3
    refine r.go I1 h fun d ρ1 w1 H2 q2 k2 I2 r2 => ?_
    obtain ⟨h1, h2, h3⟩ := peek_go I e0 rfl hw ha True.intro n0 ns nn (fun H' kp e => ⟨a, vs, rfl, e, RpL.keep kp _ _ rl, n0, ns, nn⟩) rfl k2 I2
    exact ⟨h1, k _ _ _ _ q2.2 h2 h3 (Rp.unl (l := true) (m := false) h1 (fun z => nomatch z) (fun _ => ⟨fun _ z => (nomatch z), fun _ _ z => (nomatch z)⟩) _ _ q2.1 r2)⟩
  · rename_i xs e0
    obtain ⟨w, hw, a, vs, rfl, ha, rl, n0, ns, nn⟩ := I.at_ i _ e0
    refine ⟨a, _, ha, True.intro, fun ob => ?_⟩
    have I1 : DI C (ρ.set i (some (.d (.dict xs)))) σ (upd H a (.frz ob (.dK vs))) := by
      have kp := kp_but ha True.intro (But.upd (p := a) (H := H) (o := .frz ob (.dK vs)))
      have I2 := (I.forget i).but ha True.intro (But.upd (o := .frz ob (.dK vs))) n0 ns nn (DI.own I e0 hw rfl)
      have I3 := I2.tell (i := i) (dv := .d (.dict xs)) hw (Rp.dct upd_same (RpD.keep kp _ _ rl)) fun z => nomatch z
      rw [set_set] at I3
      exact I3
    refine r.go I1 h fun d ρ1 w1 H2 q2 k2 I2 r2 => ?_
    obtain ⟨h1, h2, h3⟩ := peek_go I e0 rfl hw ha True.intro n0 ns nn (fun H' kp e => ⟨a, vs, rfl, e, RpD.keep kp _ _ rl, n0, ns, nn⟩) rfl k2 I2
    exact ⟨h1, k _ _ _ _ q2.2 h2 h3 (Rp.unl (l := false) (m := true) h1 (fun _ _ z => nomatch z) (fun z => nomatch z) _ _ q2.1 r2)⟩
  · exact h.elim⟩
end
end Dw
end
section
set_option Elab.async false
set_option linter.all false
set_option maxRecDepth 100000
set_option maxHeartbeats 4000000
/-! Tg, part Zj: the head by one kernel run: what is told of the written part (defs, methods, properties, the errors). -/
namespace Hy
open PySem PySem.Spec PyProof.Rows L2 Tg He
/-! ### functions at any place -/
def fnAt (K : PySem.W.Frag) (a : Addr) : FnW := match K.lookup a with
  | some ⟨_, _, .func fd, _⟩ => some (fd.name, fd.qualname, fd.params, fd.body, fd.scope, fd.globals, fd.closure, fd.builtins)
  | _ => none
def noneB : Value → Bool
  | .none => true
  | _ => false
def okAt (K : PySem.W.Frag) (a : Addr) (q : Str) : Bool := PySem.W.keepIn K (.ref a) && (match K.lookup a with
  | some ⟨_, _, .func fd, _⟩ => PySem.W.codeIn K fd.code q && noneB fd.defaults
  | _ => false)
def valAt (x q : Str) (st : Stmt) : FnW := some (x, q, defArgs st, .stmts (defBody st), defScope st, mainGlobals, [], builtinsNs)
theorem fun_at {K : PySem.W.Frag} {a : Addr} {x q : Str} {st : Stmt} (e : fnAt K a = valAt x q st) (c : okAt K a q = true) : ∃ fd, Fun K x q st a fd := by
  obtain ⟨kp, c2⟩ := ba c
  unfold fnAt at e
  cases lk : K.lookup a with
  | none => rw [lk] at c2; cases c2
  | some o =>
    obtain ⟨oc, od, dt, osl⟩ := o
    rw [lk] at c2 e
    cases dt with
    | func fd =>
      obtain ⟨n1, n2, n3, n4, n5, n6, n7, n8, n9, n10, n11, n12, n13, n14, n15⟩ := fd
      simp only [valAt, Option.some.injEq, Prod.mk.injEq] at e
      obtain ⟨h1, h2, h3, h4, h5, h6, h7, h8⟩ := e
      subst h1 h2 h3 h4 h5 h6 h7 h8
      obtain ⟨k1, k2⟩ := ba (show (PySem.W.codeIn K n13 n2 && noneB n8) = true from c2)
      have e8 : n8 = .none := by
        cases n8 with
        | none => rfl
        | _ => cases k2
      subst e8
      exact ⟨_, fun_mk (st := st) lk k1 kp⟩
    | _ => cases c2
/-! ### facts at written places -/
def clsK (K : PySem.W.Frag) (C : Addr) : Bool := PySem.W.plainGet K C Str.empty && (PySem.W.hasDictIn K C && (PySem.W.plainOver K C && eqO (PySem.W.findIn K (.ref C) "__setattr__") (some (some (.builtin "object.__setattr__")))))
theorem clsK_ok {K : PySem.W.Frag} {C : Addr} (c : clsK K C = true) : Cls K C := by
  obtain ⟨c1, c⟩ := ba c
  obtain ⟨c2, c⟩ := ba c
  obtain ⟨c3, c4⟩ := ba c
  exact ⟨c1, c2, c3, eqO_ok c4⟩
def noatK (K : PySem.W.Frag) (C : Addr) (f : Str) : Bool := eqO (PySem.W.findIn K (.ref C) f) (some none)
theorem noatK_ok {K : PySem.W.Frag} {C : Addr} {f : Str} (c : noatK K C f = true) : NoAttr K C f := eqO_ok c
def methK (K : PySem.W.Frag) (C : Addr) (m : Str) (f : Addr) : Bool := eqO (PySem.W.findIn K (.ref C) m) (some (some (.ref f))) && (PySem.W.isFn K (.ref f) && PySem.W.keepIn K (.ref f))
theorem methK_ok {K : PySem.W.Frag} {C f : Addr} {m : Str} (c : methK K C m f = true) : Meth K C m f := by
  obtain ⟨c1, c⟩ := ba c
  obtain ⟨c2, c3⟩ := ba c
  exact ⟨eqO_ok c1, c2, c3⟩
def mkK (K : PySem.W.Frag) (C f : Addr) : Bool := PySem.W.makesIn K C && (eqO (PySem.W.findIn K (.ref C) "__init__") (some (some (.ref f))) && (PySem.W.isFn K (.ref f) && PySem.W.keepIn K (.ref C)))
theorem mkK_ok {K : PySem.W.Frag} {C f : Addr} (c : mkK K C f = true) : Mk K C f := by
  obtain ⟨c1, c⟩ := ba c
  obtain ⟨c2, c⟩ := ba c
  obtain ⟨c3, c4⟩ := ba c
  exact ⟨c1, eqO_ok c2, c3, c4⟩
def firstIs (a : Addr) : Option (List Value) → Bool
  | some (.ref b :: _) => decide (b = a)
  | _ => false
def propK (K : PySem.W.Frag) (C : Addr) (f : Str) (p g : Addr) : Bool := eqO (PySem.W.findIn K (.ref C) f) (some (some (.ref p))) && (eqO (PySem.W.specialIn K (.ref p) "__get__") (some (some (.builtin "property.__get__"))) && (decide (PySem.W.takesIn K (.ref p) = some true) && firstIs g (PySem.W.recIn K p "property")))
theorem propK_ok {K : PySem.W.Frag} {C p g : Addr} {f : Str} (c : propK K C f p g = true) : PropOf K C f p g := by
  obtain ⟨c1, c⟩ := ba c
  obtain ⟨c2, c⟩ := ba c
  obtain ⟨c3, c4⟩ := ba c
  refine ⟨eqO_ok c1, eqO_ok c2, of_decide_eq_true c3, ?_⟩
  cases q : PySem.W.recIn K p "property" with
  | none => rw [q] at c4; cases c4
  | some l =>
    rw [q] at c4
    cases l with
    | nil => cases c4
    | cons v r =>
      cases v with
      | ref b =>
        rw [of_decide_eq_true (show decide (b = g) = true from c4)]
        exact ⟨r, rfl⟩
      | _ => cases c4
/-- a def of the text: where it stands, its names, its statement -/
structure Df where
  a : Addr
  name : Str
  qual : Str
  st : Stmt
/-- a statement of a class's body -/
def inCls (st : Stmt) (j : Nat) : Stmt := match st with
  | .ClassDef _ _ _ body _ _ _ _ _ _ _ => body.getD j (.Pass ⟨0, 0, 0, 0⟩)
  | s => s
theorem binds_of {K : PySem.W.Frag} {x q : Str} {st : Stmt} {f : Addr} {fd : FuncData} {ps : List Str} (F : Fun K x q st f fd) (h : ∀ (kV doc pm : Value) (an : Option Addr) (cdv ct : Value) (us : List Value), us.length = ps.length → bindArgs (PySem.W.fnOf x q (defArgs st) (defBody st) (defScope st) .none kV doc pm an cdv ct) ⟨us, []⟩ = pure (ps.zip us)) : Binds K fd ps [] := F.binds h
theorem ex_at {l : List Bool} (h : l.all id = true) (i : Nat) {b : Bool} (e : l[i]? = some b := by rfl) : b = true := List.all_eq_true.mp h b (List.mem_of_getElem? e)
/-! ### the errors' __init__ -/
abbrev IniV : Type := Option (Str × Arguments × FuncBody × Scope × Addr × List Str × Addr × Value)
def iniObs (a : Addr) (K : PySem.W.Frag) : IniV := match K.lookup a with
  | some ⟨_, _, .func fd, _⟩ => some (fd.name, fd.params, fd.body, fd.scope, fd.globals, fd.closure.map (·.1), fd.builtins, fd.defaults)
  | _ => none
def iniVal : IniV := some ("__init__", iArgs, .stmts iBody, iScope, mainGlobals, ["__class__"], builtinsNs, .none)
/-- .. its code object (of the file), its cell -/
def iniB (a C : Addr) (file : Str) (K : PySem.W.Frag) : Bool := eqO (PySem.W.nsIn K cStatics "thirdparty.any") (some none) && (decide (PySem.W.typeIn K (.ref a) = some (.type "function")) && (match K.lookup a with
  | some ⟨_, _, .func fd, _⟩ => PySem.W.codeIn K fd.code fd.qualname && ((match fd.code with
    | .ref c => (match K.lookup c with
      | some ⟨_, _, .fields vs, _⟩ => (match (vs[2]? : Option Value) with
        | some (Value.str z _) => decide (file = z)
        | _ => false)
      | _ => false)
    | _ => false) && (match fd.closure with
    | [(_, cc)] => (match K.lookup cc with
      | some ⟨_, _, .cell (some (.ref D)), _⟩ => decide (D = C) && (PySem.W.clsIn K D).isSome
      | _ => false)
    | _ => false))
  | _ => false))
theorem ini_of {P : Program} {K : PySem.W.Frag} {mg : Str → Option Value} {a C : Addr} (e : iniObs a K = iniVal) (b : iniB a C (P.main.file : Str) K = true) (su : mg "super" = none) (tp : (P.main.scope.names.lookup ("super" : Str)).isSome = false) :
    ∃ fd, IniT P K mg a C fd ∧ Binds K fd ["self", "value"] [] := by
  obtain ⟨b1, b⟩ := ba b
  obtain ⟨b2, b⟩ := ba b
  unfold iniObs at e
  cases lk : K.lookup a with
  | none => rw [lk] at b; cases b
  | some o =>
    obtain ⟨oc, od, dt, osl⟩ := o
    rw [lk] at b e
    cases dt with
    | func fd =>
      obtain ⟨n1, n2, n3, n4, n5, n6, n7, n8, n9, n10, n11, n12, n13, n14, n15⟩ := fd
      simp only [iniVal, Option.some.injEq, Prod.mk.injEq] at e
      obtain ⟨h1, h2, h3, h4, h5, h6, h7, h8⟩ := e
      subst h1 h2 h3 h4 h5 h7 h8
      obtain ⟨c1, b⟩ := ba b
      obtain ⟨c2, c3⟩ := ba b
      cases n13 with
      | ref cda =>
        simp only at c2
        cases lc : K.lookup cda with
        | none => rw [lc] at c2; cases c2
        | some oc2 =>
          obtain ⟨ccl, cdd, cdt, ccs⟩ := oc2
          rw [lc] at c2
          cases cdt with
          | fields vs =>
            simp only at c2
            cases hv : vs[2]? with
            | none => rw [hv] at c2; cases c2
            | some v2 =>
              rw [hv] at c2
              cases v2 with
              | str z t =>
                simp only at c2
                match n7, h6, c3 with
                | [(y, cc)], h6, c3 =>
                  simp only [List.map_cons, List.map_nil, List.cons.injEq, and_true] at h6
                  subst h6
                  simp only at c3
                  cases lcc : K.lookup cc with
                  | none => rw [lcc] at c3; cases c3
                  | some o3 =>
                    obtain ⟨cl, cld, cdt3, csl⟩ := o3
                    rw [lcc] at c3
                    cases cdt3 with
                    | cell v =>
                      cases v with
                      | none => cases c3
                      | some v =>
                        cases v with
                        | ref D =>
                          obtain ⟨d1, d2⟩ := ba (show (decide (D = C) && (PySem.W.clsIn K D).isSome) = true from c3)
                          have d1 := of_decide_eq_true d1
                          subst d1
                          obtain ⟨cdD, hD⟩ := Option.isSome_iff_exists.mp d2
                          refine ⟨_, ⟨⟨n2, z, .none, n9, n10, n11, n14, oc, ccl, cl, n12, od, cdd, cld, osl, ccs, csl, cda, cc, vs, t, cdD, rfl, lk, c1, lc, hv, ?_, lcc, hD⟩, su, eqO_ok b1, tp, of_decide_eq_true b2⟩, .all fun us hl => match us, hl with | [_, _], _ => rfl⟩
                          rw [← of_decide_eq_true c2]
                          exact beq_self_eq_true _
                        | _ => cases c3
                    | _ => cases c3
              | _ => cases c2
          | _ => cases c2
      | _ => cases c2
    | _ => cases b
/-! ### the Hook -/
abbrev AlZ : Type := List (Option (Option Value)) × List FnW × IniV × Bool
/-- what is asked: as: the places that are looked at; gn: names of the module and what they stand for; df: defs; ai, ac: the errors' __init__, their class; tf: code objects and their tables; ex: anything more -/
structure Ask where
  as : List Addr
  gn : List (Str × Option Value)
  df : List Df
  ai : Addr
  ac : Addr
  file : Str
  tf : List (Addr × Addr)
  ex : PySem.W.Frag → Bool
def Ask.more (q : Ask) (g : Addr → Option Obj) (K : PySem.W.Frag) : Bool := q.ex K && (iniB q.ai q.ac q.file K && ((q.df.all fun d => okAt K d.a d.qual) && q.tf.all fun p => PySem.W.codeHdIn K p.1 p.2 && ((K.lookup p.2).isNone && (match g p.2 with
  | some o => emptyTab o
  | none => false))))
def Ask.obs (q : Ask) (g : Addr → Option Obj) (K : PySem.W.Frag) : AlZ := (q.gn.map fun x => PySem.W.nsIn K mainGlobals x.1, q.df.map fun d => fnAt K d.a, iniObs q.ai K, q.more g K)
def Ask.val (q : Ask) : AlZ := (q.gn.map fun x => some x.2, q.df.map fun d => valAt d.name d.qual d.st, iniVal, true)
structure Says (q : Ask) (h : Heap) (K : PySem.W.Frag) : Prop where
  gn : (q.gn.map fun x => PySem.W.nsIn K mainGlobals x.1) = q.gn.map fun x => some x.2
  df : (q.df.map fun d => fnAt K d.a) = q.df.map fun d => valAt d.name d.qual d.st
  ini : iniObs q.ai K = iniVal
  ex : q.ex K = true
  iniB : iniB q.ai q.ac q.file K = true
  ok : (q.df.all fun d => okAt K d.a d.qual) = true
  hd : ∀ p ∈ q.tf, PySem.W.codeHdIn K p.1 p.2 = true
  out : ∀ p ∈ q.tf, K.lookup p.2 = none
  empty : ∀ p ∈ q.tf, h.get? p.2 = some { cls := .none, data := .fields #[] }
theorem says_of {q : Ask} {h : Heap} {K : PySem.W.Frag} (e : q.obs h.get? K = q.val) : Says q h K := by
  have e4 : q.more h.get? K = true := congrArg (fun z : AlZ => z.2.2.2) e
  obtain ⟨a1, a2⟩ := ba e4
  obtain ⟨a3, a4⟩ := ba a2
  obtain ⟨a5, a6⟩ := ba a4
  have key : ∀ p ∈ q.tf, PySem.W.codeHdIn K p.1 p.2 = true ∧ K.lookup p.2 = none ∧ h.get? p.2 = some { cls := .none, data := .fields #[] } := fun p hp => by
    obtain ⟨b1, b2⟩ := ba (List.all_eq_true.mp a6 p hp)
    obtain ⟨b3, b4⟩ := ba b2
    refine ⟨b1, Option.isNone_iff_eq_none.mp b3, ?_⟩
    cases z : h.get? p.2 with
    | none => rw [z] at b4; cases b4
    | some o =>
      rw [z] at b4
      rw [emptyTab_eq b4]
  exact ⟨congrArg (fun z : AlZ => z.1) e, congrArg (fun z : AlZ => z.2.1) e, congrArg (fun z : AlZ => z.2.2.1) e, a1, a3, a5, fun p hp => (key p hp).1, fun p hp => (key p hp).2.1, fun p hp => (key p hp).2.2⟩
def Ask.hook (q : Ask) : PySem.W.Hook where
  α := AlZ
  obs := fun s => q.obs s.heap.get? (frG s.heap.get? q.as)
  val := fun _ => q.val
  says := fun _ h => ∃ K : PySem.W.Frag, K.In h ∧ Says q h K
  of := fun _ s e => ⟨_, frG_in, says_of e⟩
  keeps := fun _ _ _ ⟨K, hK, c⟩ k => ⟨K, PySem.W.Frag.In.keeps hK k, ⟨c.gn, c.df, c.ini, c.ex, c.iniB, c.ok, c.hd, c.out, fun p hp => k _ _ (c.empty p hp)⟩⟩
def Ask.ob (q : Ask) (s : PySem.W.SharedT) : AlZ := q.obs (HandSHeadRun.getT s) (frG (HandSHeadRun.getT s) q.as)
theorem Ask.ob_eq (q : Ask) (s : PySem.W.SharedT) : q.ob s = q.hook.obs s.abs := by
  have e : HandSHeadRun.getT s = s.abs.heap.get? := funext (HandSHeadRun.getT_eq s)
  unfold Ask.ob
  rw [e] <;> rfl
section
variable {q : Ask} {h : Heap} {K : PySem.W.Frag}
theorem Says.fn (c : Says q h K) (i : Nat) {d : Df} (e : q.df[i]? = some d := by rfl) : ∃ fd, Fun K d.name d.qual d.st d.a fd := by
  have e2 : (q.df.map fun d => fnAt K d.a)[i]? = (q.df.map fun d => valAt d.name d.qual d.st)[i]? := by rw [c.df]
  rw [List.getElem?_map, List.getElem?_map, e] at e2
  exact fun_at (Option.some.inj e2) (List.all_eq_true.mp c.ok d (List.mem_of_getElem? e))
theorem Says.nm (c : Says q h K) (X : K.In h) {mg : Str → Option Value} (G : h.Ns mainGlobals mg) (i : Nat) {x : Str} {v : Value} (e : q.gn[i]? = some (x, some v) := by rfl) : mg x = some v := by
  have e2 : (q.gn.map fun x => PySem.W.nsIn K mainGlobals x.1)[i]? = (q.gn.map fun x => some x.2)[i]? := by rw [c.gn]
  rw [List.getElem?_map, List.getElem?_map, e] at e2
  exact PySem.W.mg_of X G (Option.some.inj e2)
theorem Says.free (c : Says q h K) (X : K.In h) {mg : Str → Option Value} (G : h.Ns mainGlobals mg) (i : Nat) {x : Str} (e : q.gn[i]? = some (x, none) := by rfl) : mg x = none := by
  have e2 : (q.gn.map fun x => PySem.W.nsIn K mainGlobals x.1)[i]? = (q.gn.map fun x => some x.2)[i]? := by rw [c.gn]
  rw [List.getElem?_map, List.getElem?_map, e] at e2
  exact PySem.W.mg_none_of X G (Option.some.inj e2)
end
end Hy
end
section
set_option Elab.async false
set_option linter.all false
set_option maxRecDepth 100000
set_option maxHeartbeats 4000000
/-! Tg, part Zk: sets of texts: set(list), len, sorted. -/
namespace Ts
open PySem PySem.Spec PyProof.Rows L2
def keyT (e : Int × Value) : Str := match e.2 with
  | .str x _ => x
  | _ => ⟨#[]⟩
def GoodT (w : World) (e : Int × Value) : Prop := ∃ x tk, e.2 = Value.str x tk ∧ e.1 = hashStr w x
/-- the set at a has the texts xs -/
def SetS (w : World) (h : Heap) (a : Addr) (xs : List Str) : Prop :=
  ∃ o es ep t, h.get? a = some o ∧ o.ExactSet ∧ o.data = .set es ep t ∧ (∀ e ∈ es.toList, GoodT w e) ∧ (es.toList.map keyT).Perm xs ∧ xs.Nodup ∧ es.size < scanBound ∧ t.fits es.size = true ∧ Ris t.place.toList ∧ (w.params.followText "set-order" = true ∨ t.led = true)
section
variable {P : Program} {w : World} {A : Around} {E : Value → Shared → Prop} {s : Shared} {h h' : Heap} {a : Addr} {xs : List Str}
theorem SetS.at (R : SetS w h a xs) (k : ∀ o, h.get? a = some o → h'.get? a = some o) : SetS w h' a xs := by
  obtain ⟨o, es, ep, t, ho, rest⟩ := R
  exact ⟨o, es, ep, t, k o ho, rest⟩
theorem elemsT {l : List (Int × Value)} (g : ∀ e ∈ l, GoodT w e) : ElemsOf (strKind P w) l := fun e he => by
  obtain ⟨x, tk, h1, h2⟩ := g e he
  exact ⟨⟨x, by rw [h1]; exact strKind_is P w x tk, h2⟩, by rw [h1] <;> rfl⟩
theorem isT {e : Int × Value} (g : GoodT w e) (x : Str) : (strKind P w).is x e.2 = true ↔ keyT e = x := by
  obtain ⟨y, tk, h1, _⟩ := g
  unfold keyT
  rw [h1]
  constructor
  · intro q
    exact (strKind P w).inj _ _ _ (strKind_is P w y tk) q
  · intro q
    rw [← show y = x from q]
    exact strKind_is P w y tk
theorem memT {l : List (Int × Value)} (g : ∀ e ∈ l, GoodT w e) (x : Str) : x ∈ l.map keyT ↔ ∃ e ∈ l, (strKind P w).is x e.2 = true := by
  rw [List.mem_map]
  constructor
  · rintro ⟨e, he, q⟩
    exact ⟨e, he, (isT (g e he) x).2 q⟩
  · rintro ⟨e, he, q⟩
    exact ⟨e, he, (isT (g e he) x).1 q⟩
theorem SetS.keyed (R : SetS w h a xs) : h.SetOf (strKind P w) a (fun x => decide (x ∈ xs)) xs.length := by
  obtain ⟨o, es, ep, t, ho, hx, hd, g, pm, nd, hb, hf, _⟩ := R
  refine ⟨o, es, ep, t, ho, hx, hd, elemsT g, fun x => ?_, hb, hf, ?_⟩
  · rw [decide_eq_true_eq, ← pm.mem_iff, memT (P := P) g]
  · rw [← pm.length_eq, List.length_map, Array.length_toList]
theorem tailT {gv : Bool → Sem Unit} (hgv : ∀ (b : Bool) (z : Shared) (Q' : Unit → Shared → Prop), Q' () z → wpAny (model P w) A (gv b) Q' E z)
    {o : Obj} {es : Array (Int × Value)} {ep : Nat} {t : SetTable} (ho : s.heap.get? a = some o) (hex : o.ExactSet) (hd : o.data = .set es ep t)
    {fs : Array (Int × Value)} {u : SetTable} {ys : List Str} (g1 : ∀ e ∈ fs.toList, GoodT w e) (p1 : (fs.toList.map keyT).Perm ys) (n1 : ys.Nodup)
    (b1 : fs.size < scanBound) (f1 : u.fits fs.size = true) (r1 : Ris u.place.toList) (l1 : w.params.followText "set-order" = true ∨ u.led = true) {was : Bool} {R : Option Bool → Shared → Prop}
    (hR : ∀ h2, Heap.SameBut a s.heap h2 → SetS w h2 a ys → R (some true) { s with heap := h2 }) :
    wpAny (model P w) A (do
      storeSet a fs u
      if (!was && u.tooFull) = true then do
          gv (relayAll u fs (SetTable.grown fs.size)).2.2
          storeSet a (relayAll u fs (SetTable.grown fs.size)).1 (relayAll u fs (SetTable.grown fs.size)).2.1
          pure (some true)
        else pure (some true)) R E s := by
  refine wpAny_bind (wpAny_storeSet_of ho hd ?_ (fits_of_scanBound b1))
  have o1 := store_at (es' := fs) (t' := u) ho hd
  have same1 := Heap.SameBut.update s.heap a (Obj.putSet fs u)
  split
  · have pr := relayAll_perm u fs (SetTable.grown fs.size)
    have fr := relayAll_fits u fs (SetTable.grown fs.size)
    have rr := relayAll_ris u fs (SetTable.grown fs.size)
    have lr := relayAll_led u fs (SetTable.grown fs.size)
    generalize relayAll u fs (SetTable.grown fs.size) = Y at pr fr rr lr ⊢
    obtain ⟨f2, u2, g2⟩ := Y
    dsimp only at pr fr rr lr ⊢
    have z2 : f2.size = fs.size := by rw [← Array.length_toList, pr.length_eq, Array.length_toList]
    have b2 : f2.size < scanBound := by rw [z2]; exact b1
    refine wpAny_bind (hgv _ _ _ ?_)
    refine wpAny_bind (wpAny_storeSet_of o1 rfl ?_ (fits_of_scanBound b2))
    have o2 := store_at (es' := f2) (t' := u2) o1 rfl
    refine wpAny_pure (hR _ (same1.trans (Heap.SameBut.update _ a _)) ?_)
    exact ⟨_, f2, _, u2, o2, hex, rfl, fun e he => g1 e (pr.mem_iff.mp he), (pr.map keyT).trans p1, n1, b2, fr, rr, l1.imp id fun z => by rw [lr]; exact z⟩
  · exact wpAny_pure (hR _ same1 ⟨_, fs, _, u, o1, hex, rfl, g1, p1, n1, b1, f1, r1, l1⟩)
/-- one text more -/
theorem addT {x : Str} {tk : Tok} {Q : Bool → Shared → Prop} (R : SetS w s.heap a xs) (room : xs.length + 1 < scanBound)
    (hQ : ∀ b h2, Heap.SameBut a s.heap h2 → SetS w h2 a (xs.insert x) → Q b { s with heap := h2 }) :
    wpAny (model P w) A (setAddHashed a (.str x tk) (hashStr w x)) Q E s := by
  obtain ⟨o, es, ep, t, ho, hex, hd, g, pm, nd, hb, hf, hr, hl⟩ := R
  have key : (strKind P w).is x (.str x tk) = true := strKind_is P w x tk
  have scn : (Value.str x tk).scannable = true := rfl
  have els : ElemsOf (strKind P w) es.toList := elemsT g
  show wpAny (model P w) A (setAddHashed a (.str x tk) ((strKind P w).hash x)) Q E s
  unfold setAddHashed setAddHashedIn
  refine wpAny_holding (wpAny_bind (wpAny_setState_of ho hd hf ?_))
  dsimp only
  rw [byScan_of scn hb els]
  simp only [↓reduceIte]
  unfold setAddByScan
  refine wpAny_bind ?_
  refine wpAny_bind (wpAny_rule ?_)
  refine wpAny_bind (wpAny_setScan_of key ho hd hf els ?_)
  cases fi : List.findIdx? (fun e => (strKind P w).is x e.2) es.toList with
  | some j =>
    dsimp only
    obtain ⟨hj, pj, _⟩ := List.findIdx?_eq_some_iff_getElem.mp fi
    have hx : x ∈ xs := pm.mem_iff.mp ((memT (P := P) (w := w) g x).2 ⟨es.toList[j], List.getElem_mem hj, pj⟩)
    refine wpAny_pure (wpAny_pure ?_)
    have q := hQ false s.heap (Heap.SameBut.refl a s.heap)
    rw [List.insert_of_mem hx] at q
    exact q ⟨o, es, ep, t, ho, hex, hd, g, pm, nd, hb, hf, hr, hl⟩
  | none =>
    dsimp only
    have hx : x ∉ xs := fun z => by
      obtain ⟨e, he, q⟩ := (memT (P := P) (w := w) g x).1 (pm.mem_iff.mpr z)
      have c := List.findIdx?_eq_none_iff.mp fi e he
      rw [q] at c
      cases c
    have way : ∀ (b : Bool) {z : Shared} {Q' : Unit → Shared → Prop}, Q' () z → wpAny (model P w) A (match b with | true => rule "set.scan.the-table-gave-way" | false => pure ()) Q' E z :=
      fun b z Q' q => by cases b <;> first | exact wpAny_pure q | exact wpAny_rule q
    have pl := layNew_perm t es ((strKind P w).hash x) (.str x tk)
    have fl := layNew_fits t es ((strKind P w).hash x) (.str x tk)
    have rl := layNew_ris t es ((strKind P w).hash x) (.str x tk) hr
    have ll := layNew_led t es ((strKind P w).hash x) (.str x tk)
    generalize layNew t es ((strKind P w).hash x) (.str x tk) = Y at pl fl rl ll ⊢
    obtain ⟨fs, u, was, gave⟩ := Y
    dsimp only at pl fl rl ll ⊢
    rw [Array.toList_push] at pl
    have pc : fs.toList.Perm (((strKind P w).hash x, Value.str x tk) :: es.toList) := pl.trans (List.perm_append_singleton _ _)
    have pk : (fs.toList.map keyT).Perm (x :: xs) := (pc.map keyT).trans (pm.cons x)
    have gk : ∀ e ∈ fs.toList, GoodT w e := fun e he => by
      rcases List.mem_cons.mp (pc.mem_iff.mp he) with z | z
      · rw [z]; exact ⟨x, tk, rfl, rfl⟩
      · exact g e z
    have nk : (x :: xs).Nodup := List.nodup_cons.mpr ⟨hx, nd⟩
    have zk : fs.size = xs.length + 1 := by rw [← Array.length_toList, ← List.length_map (f := keyT), pk.length_eq, List.length_cons]
    have bk : fs.size < scanBound := by rw [zk]; exact room
    have lk : w.params.followText "set-order" = true ∨ u.led = true := hl.imp id fun z => by rw [ll]; exact z
    have fin : ∀ h2, Heap.SameBut a s.heap h2 → SetS w h2 a (x :: xs) → Q true { s with heap := h2 } := fun h2 sb r => by
      have q := hQ true h2 sb
      rw [List.insert_of_not_mem hx] at q
      exact q r
    refine wpAny_bind (way _ ?_)
    split
    · refine wpAny_bind ?_
      rw [hashByValue_scannable 8 scn]
      refine wpAny_pure ?_
      refine tailT ?_ ho hex hd gk pk nk bk ?_ ?_ ?_ ?_
      · intro b z Q' q; cases b <;> first | exact wpAny_pure q | exact wpAny_rule q
      · first | (split <;> first | exact fl | exact SetTable.fits_plain_off fl) | exact fl
      · first | (split <;> exact rl) | exact rl
      · first | (split <;> exact lk) | exact lk
      · intro h2 sb r; dsimp only; exact wpAny_pure (fin h2 sb r)
    · refine wpAny_bind (wpAny_pure ?_)
      simp only [↓reduceIte]
      refine tailT ?_ ho hex hd gk pk nk bk fl rl lk ?_
      · intro b z Q' q; cases b <;> first | exact wpAny_pure q | exact wpAny_rule q
      · intro h2 sb r; dsimp only; exact wpAny_pure (fin h2 sb r)
theorem freshT (w : World) (h : Heap) : SetS w (h.push { cls := .type "set", dict := none, data := .set #[] 0 (.fresh 0 0 (!w.params.followText "set-order")) }) h.objs.size [] :=
  ⟨_, #[], 0, _, Heap.get?_push_size _ rfl, ⟨rfl, rfl, rfl⟩, rfl, (fun e he => by simp at he), (by simp), List.nodup_nil, (by decide), (by rfl), List.Pairwise.nil, by
    show _ ∨ (!w.params.followText "set-order") = true
    cases w.params.followText "set-order"
    · exact .inr rfl
    · exact .inl rfl⟩
end
end Ts
end
section
set_option Elab.async false
set_option linter.all false
set_option maxRecDepth 100000
set_option maxHeartbeats 4000000
/-! Tg, part Zl: set(list of texts) made. -/
namespace Ts
open PySem PySem.Spec PyProof.Rows L2
/-- the texts met so far, each once -/
def metT (val : Nat → Str) (i : Nat) : List Str := ((List.range i).map val).foldl (fun acc x => acc.insert x) []
theorem metT_next (val : Nat → Str) (i : Nat) : metT val (i + 1) = (metT val i).insert (val i) := by
  unfold metT
  rw [List.range_succ, List.map_append, List.foldl_append]
  rfl
theorem metT_len (val : Nat → Str) : ∀ i, (metT val i).length ≤ i
  | 0 => Nat.le_refl _
  | i + 1 => by
    rw [metT_next]
    have ih := metT_len val i
    by_cases hm : val i ∈ metT val i
    · rw [List.insert_of_mem hm]; omega
    · rw [List.insert_of_not_mem hm, List.length_cons]; omega
section
variable {P : Program} {w : World} {A : Around} {R : Result → Shared → Prop} {I : Addr} {fp wr : List Addr} {G : Array GenState → Array GenState → Prop} {n : Nat} {Pv : Nat → Value → Prop} {St : Nat → Shared → Prop}
theorem loopT (W : WalksS P w A.in1 I fp wr G n Pv St) (S : Addr) (out : S ∉ fp) (val : Nat → Str) (hv : ∀ i v, Pv i v → ∃ t, v = .str (val i) t) (few : n + 1 < scanBound) :
    ∀ (m i : Nat) (s : Shared), n - i = m → i ≤ n → St i s → SetS w s.heap S (metT val i) →
      (∀ z, Moved (S :: wr) G s z → SetS w z.heap S (metT val n) → R (.ok (.ret .none)) z) → codeAny (model P w) A (.builtin "set.update.loop" ⟨[.ref S, .ref I], []⟩) R s := by
  have outW : S ∉ wr := fun q => out (W.sub _ q)
  have wide : ∀ b ∈ wr, b ∈ S :: wr := fun b q => List.mem_cons_of_mem _ q
  intro m
  induction m with
  | zero =>
    intro i s em le st hS hR
    obtain rfl : i = n := by omega
    refine codeAny_builtin PyProof.Rows.F.entry_set_update_loop ?_
    rw [Around.under_plainId PyProof.Rows.F.plain_set_update_loop _]
    show wpAny _ A.in1 (pyNext (.ref I) >>= _) _ _ s
    refine wpAny_bind (W.done s _ _ st fun z mv => ?_)
    show wpAny _ A.in1 (ret Value.none) _ _ z
    exact wpAny_pure (hR z (mv.mono wide) (hS.at fun o e => mv.heap S _ outW e))
  | succ m ih =>
    intro i s em le st hS hR
    have lt : i < n := by omega
    refine codeAny_builtin PyProof.Rows.F.entry_set_update_loop ?_
    rw [Around.under_plainId PyProof.Rows.F.plain_set_update_loop _]
    show wpAny _ A.in1 (pyNext (.ref I) >>= _) _ _ s
    refine wpAny_bind (W.item i s _ _ lt st fun v z pv st1 mv => ?_)
    obtain ⟨t, rfl⟩ := hv i v pv
    have hS1 : SetS w z.heap S (metT val i) := hS.at fun o e => mv.heap S _ outW e
    show wpAny _ A.in1 (holding [Value.str (val i) t] (setAdd S (.str (val i) t)) >>= _) _ _ z
    refine wpAny_bind (wpAny_holding ?_)
    unfold setAdd
    refine wpAny_holding ?_
    refine wpAny_bind ((strKind P w).pyHash (k := val i) (strKind_is _ _ _ _) ?_)
    have room : (metT val i).length + 1 < scanBound := by have := metT_len val i; omega
    refine addT (s := { z with toks := z.toks + 1 }) hS1 room fun b h2 sb hS2 => ?_
    rw [← metT_next] at hS2
    refine wpAny_pure ⟨plainId_quiet PyProof.Rows.F.plain_set_update_loop _, ih (i + 1) _ (by omega) lt (W.frame _ z _ _ st1 (Nat.le_succ _) fun c hc o e => ?_) hS2 fun z2 mv2 hS3 => ?_⟩
    · rw [sb.2 c (fun q : c = S => out (by rw [← q]; exact hc))]; exact e
    · refine hR z2 (Moved.trans W.gtrans ((mv.mono wide).then_heap (Nat.le_succ _) fun c o hc e => ?_) mv2) hS3
      rw [sb.2 c (fun q : c = S => hc (by rw [q]; exact List.mem_cons_self))]; exact e
end
section
variable {P : Program} {w : World} {A : Around} {E : Value → Shared → Prop} {s : Shared}
abbrev fresh0 (w : World) : Obj := { cls := .type "set", dict := none, data := .set #[] 0 (.fresh 0 0 (!w.params.followText "set-order")) }
theorem newT (v : Value) {Q1 : Value → Shared → Prop} (q : Q1 (.ref s.heap.objs.size) { s with heap := s.heap.push (fresh0 w) }) :
    codeAny (model P w) A (.call (.builtin "set.__new__") ⟨[.type "set", v], []⟩) (wants Q1 E) s := by
  refine codeAny_of_tree ?_
  show wpAny _ A.in1 (do checkBuiltinCall "set.__new__" ⟨[.type "set", v], []⟩; again (.builtin "set.__new__" ⟨[.type "set", v], []⟩)) _ _ s
  refine wpAny_bind (wpAny_of_eq (PySem.F.newCall_set_1 v) (wpAny_pure ⟨plainId_quiet PySem.F.plain_set_new _, codeAny_builtin PySem.F.entry_set_new ?_⟩))
  rw [Around.under_plainId PySem.F.plain_set_new _]
  unfold Builtin.«set.__new__» Builtin.Frozenset.newClass
  have hsub := sub_set_self
  obtain ⟨hp, g, d, tk, os⟩ := s
  dsimp only
  wp_walk
  refine wpAny_askSetting (wpAny_pure ?_)
  dsimp only
  simp only [newObj]
  refine wpAny_bind (wpAny_alloc (wpAny_pure ?_))
  exact wpAny_pure q
set_option maxHeartbeats 3200000 in
theorem makeT {l : Addr} {its : Array Value} {xs : List Str} {Q : Value → Shared → Prop} (hh : A.handled = none) (hl : s.heap.IsList l its) (hi : ∀ (i : Nat) (v : Value), its[i]? = some v → ∃ t : Tok, v = Value.str (xs.getD i ⟨#[]⟩) t) (few : its.size + 1 < scanBound)
    (q : ∀ (h2 : Heap) (tk : Nat), SetS w h2 s.heap.objs.size (metT (fun i => xs.getD i ⟨#[]⟩) its.size) → (∀ b o, b < s.heap.objs.size → s.heap.get? b = some o → h2.get? b = some o) → Q (.ref s.heap.objs.size) { s with heap := h2, toks := tk }) :
    wpAny (model P w) A (call (.type "set") [.ref l]) Q E s := by
  obtain ⟨c, tl, hmro⟩ := PySem.F.called_set.mro
  have hmade := PySem.F.called_set.made
  have hsub := PySem.F.called_set.sub
  refine wpAny_call (codeAny_of_tree ?_)
  show wpAny _ _ (callAny (.type "set") _) _ _ _
  refine wpAny_pure ⟨Code.quiet_builtin _ (by decide +kernel), codeAny_builtin PySem.F.entry_type_call ?_⟩
  rw [Around.under_plain (weight_type_call_type "set" [.ref l] []) rfl]
  have c1 := PySem.F.called_set.notType
  have c2 := PySem.F.called_set.canCreate
  have c3 := PySem.F.typeCall_set_1 (.ref l)
  repeat (any_goals (first | assumption | wp_step))
  refine codeAny_mono (newT (.ref l) (E := E) (Q1 := fun ob z => ob = .ref s.heap.objs.size ∧ z = { s with heap := s.heap.push (fresh0 w) }) ⟨rfl, rfl⟩) fun r z hr => ?_
  cases r with
  | error e => exact hr
  | ok fl =>
    cases fl with
    | ret obj =>
      obtain ⟨rfl, rfl⟩ := hr
      have hS : (s.heap.push (fresh0 w)).get? s.heap.objs.size = some (fresh0 w) := Heap.get?_push_size _ rfl
      have hT : Shared.TypeIs { s with heap := s.heap.push (fresh0 w) } (.ref s.heap.objs.size) "set" := ⟨_, hS, rfl⟩
      have hli := PySem.F.called_set.init.lookup
      have hbi := PySem.F.called_set.init.bind (.ref s.heap.objs.size)
      repeat (any_goals (first | assumption | wp_step))
      refine codeAny_mono (codeAny_call_builtin (R := wants (fun v z2 => v = .none ∧ ∃ h2 tk, z2 = { s with heap := h2, toks := tk } ∧ SetS w h2 s.heap.objs.size (metT (fun i => xs.getD i ⟨#[]⟩) its.size) ∧
          (∀ b o, b < s.heap.objs.size → s.heap.get? b = some o → h2.get? b = some o)) E) PySem.F.called_set.init.plain PySem.F.entry_set_init (check_set_init_1 hT ?_)) fun r2 z2 hr2 => ?_
      · obtain ⟨ol, hol, hcl, nl, hdl⟩ := hl
        obtain ⟨k1, k2, k3, k4⟩ := ol
        simp only at hcl hdl
        subst hcl hdl
        have got : (s.heap.push (fresh0 w)).get? l = some { cls := .type "list", dict := k2, data := .seq its nl, slots := k4 } := Heap.get?_push_of_some _ hol
        have n1 := PySem.F.sub_list_set
        have n2 := PySem.F.sub_list_frozenset
        have n3 : (Value.type "list" == Value.type "dict") = false := by decide
        have isl : (s.heap.push (fresh0 w)).IsList l its := ⟨_, got, rfl, nl, rfl⟩
        unfold Builtin.«set.__init__» noKeywords Builtin.Frozenset.updateFrom
        generalize hit : pyIter = PI
        wp_walk
        subst hit
        refine wpAny_pyIter_list isl ?_
        refine wpAny_bind (wpAny_runValue ?_)
        have lt : l < s.heap.objs.size := Heap.lt_size hol
        have h3 : A.in1.in1.in1.handled = none := by simp [hh]
        have ne : l ≠ (s.heap.push (fresh0 w)).objs.size := by
          rw [Heap.size_push]
          exact Nat.ne_of_lt (Nat.lt_succ_of_lt lt)
        have out : s.heap.objs.size ∉ [(s.heap.push (fresh0 w)).objs.size, l] := by
          rw [Heap.size_push]
          simp only [List.mem_cons, List.not_mem_nil, or_false, not_or]
          exact ⟨Nat.ne_of_lt (Nat.lt_succ_self _), Nat.ne_of_gt lt⟩
        refine loopT ((Walks.list h3 _ l ne its).toS) s.heap.objs.size out (fun i => xs.getD i ⟨#[]⟩) hi few (its.size - 0) 0 _ (by omega) (Nat.zero_le _) ⟨⟨_, Heap.get?_push_size _ rfl, rfl, rfl⟩, (isl.push _)⟩ ?_ ?_
        · exact (freshT w s.heap).at fun o e => Heap.get?_push_of_some _ e
        · intro z3 mv hS3
          obtain ⟨h4, g4, d4, t4, o4⟩ := z3
          have eg : g4 = s.gens := mv.gens
          have ed : d4 = s.drawn := mv.drawn
          have eo : o4 = s.os := mv.os
          subst eg ed eo
          show wpAny _ _ _ _ _ _
          refine wpAny_pure ?_
          show wpAny _ _ (ret Value.none) _ _ _
          refine wpAny_pure ⟨rfl, h4, t4, rfl, hS3, fun b o hb e => ?_⟩
          have b2 : b ≠ (s.heap.push (fresh0 w)).objs.size := by
            rw [Heap.size_push]
            exact Nat.ne_of_lt (Nat.lt_succ_of_lt hb)
          exact mv.heap b o (by simp only [List.mem_cons, List.not_mem_nil, or_false, not_or]; exact ⟨Nat.ne_of_lt hb, b2⟩) (Heap.get?_push_of_some _ (Heap.get?_push_of_some _ e))
      · cases r2 with
        | error e => exact hr2
        | ok f2 =>
          cases f2 with
          | ret r =>
            obtain ⟨rfl, h2, tk, rfl, hS2, hk2⟩ := hr2
            repeat (any_goals (first | assumption | wp_step))
            exact q _ _ hS2 hk2
          | _ => exact hr2.elim
    | _ => exact hr.elim
end
end Ts
end
section
set_option Elab.async false
set_option linter.all false
set_option maxRecDepth 100000
set_option maxHeartbeats 4000000
/-! Tg, part Zm: Dw: len(set(texts)), sorted(set(texts)). -/
namespace Ts
open PySem PySem.Spec PyProof.Rows L2
/-- each text once -/
def dedT (ys : List Str) : List Str := ys.foldl (fun acc x => acc.insert x) []
theorem range_getD : ∀ (ys : List Str), (List.range ys.length).map (fun i => ys.getD i ⟨#[]⟩) = ys := fun ys => by
  apply List.ext_getElem
  · simp
  · intro i h1 h2
    rw [List.getElem_map, List.getElem_range, List.getD_eq_getElem?_getD, List.getElem?_eq_getElem h2]
    rfl
theorem metT_all (ys : List Str) : metT (fun i => ys.getD i ⟨#[]⟩) ys.length = dedT ys := by
  unfold metT dedT
  rw [range_getD]
theorem foldI (x : Str) : ∀ (ys acc : List Str), x ∈ ys.foldl (fun acc x => acc.insert x) acc ↔ x ∈ acc ∨ x ∈ ys
  | [], acc => by simp
  | y :: ys, acc => by
    rw [List.foldl_cons, foldI x ys, List.mem_insert_iff, List.mem_cons]
    constructor
    · rintro ((h | h) | h)
      · exact .inr (.inl h)
      · exact .inl h
      · exact .inr (.inr h)
    · rintro (h | h | h)
      · exact .inl (.inr h)
      · exact .inl (.inl h)
      · exact .inr h
theorem mem_dedT {x : Str} {ys : List Str} : x ∈ dedT ys ↔ x ∈ ys := by
  unfold dedT
  rw [foldI]
  simp
theorem foldN : ∀ (ys acc : List Str), acc.Nodup → (ys.foldl (fun acc x => acc.insert x) acc).Nodup
  | [], acc, h => h
  | y :: ys, acc, h => by
    rw [List.foldl_cons]
    apply foldN ys
    by_cases m : y ∈ acc
    · rw [List.insert_of_mem m]; exact h
    · rw [List.insert_of_not_mem m]; exact List.nodup_cons.mpr ⟨m, h⟩
theorem nodup_dedT (ys : List Str) : (dedT ys).Nodup := foldN ys [] List.nodup_nil
theorem foldL : ∀ (ys acc : List Str), (ys.foldl (fun acc x => acc.insert x) acc).length ≤ acc.length + ys.length
  | [], acc => by simp
  | y :: ys, acc => by
    rw [List.foldl_cons]
    have h := foldL ys (acc.insert y)
    have h2 : (acc.insert y).length ≤ acc.length + 1 := by
      by_cases m : y ∈ acc
      · rw [List.insert_of_mem m]; omega
      · rw [List.insert_of_not_mem m, List.length_cons]; omega
    rw [List.length_cons]
    omega
theorem len_dedT (ys : List Str) : (dedT ys).length ≤ ys.length := by
  have := foldL ys []
  rw [List.length_nil, Nat.zero_add] at this
  exact this
theorem foldE : ∀ (ys acc : List Str), acc.Nodup → ((ys.foldl (fun acc x => acc.insert x) acc).length = acc.length + ys.length ↔ (acc.reverse ++ ys).Nodup)
  | [], acc, h => by
    simp only [List.foldl_nil, List.length_nil, Nat.add_zero, List.append_nil, true_iff]
    exact (List.reverse_perm acc).nodup_iff.mpr h
  | y :: ys, acc, h => by
    rw [List.foldl_cons, List.length_cons]
    by_cases m : y ∈ acc
    · rw [List.insert_of_mem m]
      have := foldL ys acc
      constructor
      · intro e; omega
      · intro nd
        exfalso
        rw [List.nodup_append] at nd
        exact nd.2.2 y (List.mem_reverse.mpr m) y List.mem_cons_self rfl
    · rw [List.insert_of_not_mem m]
      have ih := foldE ys (y :: acc) (List.nodup_cons.mpr ⟨m, h⟩)
      rw [List.length_cons, List.reverse_cons, List.append_assoc] at ih
      rw [show acc.length + (ys.length + 1) = acc.length + 1 + ys.length by omega, ih]
      rfl
theorem ded_nodup (ys : List Str) : (dedT ys).length = ys.length ↔ ys.Nodup := by
  have := foldE ys [] List.nodup_nil
  simpa [dedT] using this
def SetSO (w : World) (a : Addr) (xs : List Str) : HO := .ext fun h => SetS w h a xs
theorem setSO_new {w : World} {P : Program} {H : Hp} {h : Heap} {a : Addr} {xs : List Str} (R : SetS w h a xs) : ObjOk P w H h a (SetSO w a xs) := by
  have ⟨o, _, _, _, ho, _⟩ := R
  exact ⟨R, ⟨o, ho⟩, fun h1 h2 p k => SetS.at p k⟩
section
variable {X : Cx}
theorem setSO_get {pins : List (Addr × Obj)} {σ : L2.St} {H : Hp} {s : Shared} {a : Addr} {xs : List Str} (I : Inv X pins σ H s) (ha : H a = some (SetSO X.w a xs)) : SetS X.w s.heap a xs := (I.hok a _ ha).1
def rSetT (K : PySem.W.Frag) (w : World) : List V → Hp → VK → Prop := fun vs H Q => ∃ (l : Addr) (ys : List Str), vs = [.ref l] ∧ SqL K H l (ys.map V.str) ∧ ys.length + 1 < scanBound ∧ ∀ p, H p = none → Q (.ref p) (upd H p (SetSO w p (dedT ys)))
theorem strs_at : ∀ {ys : List Str} {us : List Value}, Vals (ys.map V.str) us → ∀ (i : Nat) (v : Value), us[i]? = some v → ∃ t : Tok, v = Value.str (ys.getD i ⟨#[]⟩) t
  | [], _, .nil, i, v, h => by simp at h
  | y :: ys, _, .cons r t, 0, v, h => by
    obtain ⟨k, rfl⟩ := r
    simp at h
    exact ⟨k, h.symm⟩
  | y :: ys, _, .cons r t, i + 1, v, h => by
    have := strs_at t i v (by simpa using h)
    simpa using this
theorem cr_setT (hc : X.calm = true) : CallR X (.type "set") (rSetT X.K X.w) := by
  intro pins s σ H vs us Q I r h
  obtain ⟨l, ys, rfl, hl, few, q⟩ := h
  rw [Vals.ref1 r]
  obtain ⟨its, rv, pl, hz⟩ := I.list hl
  have el : its.length = ys.length := by
    have := rv.length
    rw [List.length_map] at this
    exact this.symm
  have hn : H s.heap.objs.size = none := I.hok.fresh (Nat.le_refl _)
  refine makeT (P := X.prog) (w := X.w) (xs := ys) (I.ok.hd hc) pl.isList (fun i v e => strs_at rv i v (by simpa using e)) (by rw [List.size_toArray, el]; exact few) fun h2 tk R k => ?_
  rw [show its.toArray.size = ys.length by rw [List.size_toArray, el], metT_all] at R
  exact ⟨.ref s.heap.objs.size, upd H s.heap.objs.size (SetSO X.w s.heap.objs.size (dedT ys)), I.laid (t' := tk) (fun b o e => k b o (Heap.lt_size e) e) (Nat.le_refl _) (setSO_new R), rfl, q _ hn⟩
def rLenT (w : World) : List V → Hp → VK → Prop := fun vs H Q => ∃ (a : Addr) (xs : List Str), vs = [.ref a] ∧ H a = some (SetSO w a xs) ∧ xs.length < scanBound ∧ Q (.int (xs.length : Nat)) H
theorem cr_lenT : CallR X (.builtin "len") (rLenT X.w) := by
  intro pins s σ H vs us Q I r h
  obtain ⟨a, xs, rfl, ha, few, q⟩ := h
  rw [Vals.ref1 r]
  obtain ⟨o, es, ep, t, ho, hex, hd, g, pm, nd, hb, hf, _⟩ := setSO_get I ha
  have e : es.size = xs.length := by rw [← Array.length_toList, ← List.length_map (f := keyT), pm.length_eq]
  have sb : scanBound < 2 ^ 62 := by decide
  exact call_len_set ho hex hd hf (by omega) ⟨.int (xs.length : Nat), H, I.tok _, ⟨_, by rw [e]⟩, q⟩
def rSortT (w : World) : List V → Hp → VK → Prop := fun vs H Q => ∃ (a : Addr) (xs : List Str), vs = [.ref a] ∧ H a = some (SetSO w a xs) ∧ xs.length < 64 ∧ ∀ (zs : List Str) (p : Addr), zs.Perm xs → sortedS zs = true → H p = none → Q (.ref p) (upd H p (.lst (zs.map V.str)))
theorem strs_of : ∀ (l : List Value), (∀ v ∈ l, ∃ x tk, v = Value.str x tk) → StrsAre l (l.map fun v => match v with | .str x _ => x | _ => ⟨#[]⟩)
  | [], _ => .nil
  | v :: l, h => by
    obtain ⟨x, tk, rfl⟩ := h v List.mem_cons_self
    exact .cons x tk (strs_of l fun u hu => h u (List.mem_cons_of_mem _ hu))
theorem cr_sortT (hc : X.calm = true) : CallR X (.builtin "sorted") (rSortT X.w) := by
  intro pins s σ H vs us Q I r h
  obtain ⟨a, xs, rfl, ha, h64, q⟩ := h
  rw [Vals.ref1 r]
  obtain ⟨o, es, ep, t, ho, hex, hd, g, pm, nd, hb, hf, hr, hl⟩ := setSO_get I ha
  have ez : es.size = xs.length := by rw [← Array.length_toList, ← List.length_map (f := keyT), pm.length_eq]
  refine Calls.call_function_entry kind_sorted plain_sorted entry_sorted (args_sorted1 _) ?_
  unfold Builtin.«sorted»
  refine wpAny_bind (m := checkCount "sorted" 1 1 _) (wpAny_pure ?_)
  refine wpAny_bind (collect_set (A := X.A.in1) (I.ok.hd hc) ⟨o, ho, hex.1, hd⟩ hf hb hr hl fun z out kz sz gz oz po => ?_)
  have eo : out.length = xs.length := by rw [po.length_eq, List.length_map, Array.length_toList]; exact ez
  have all : ∀ v ∈ out, ∃ x tk, v = Value.str x tk := fun v hv => by
    obtain ⟨e, he, qe⟩ := List.mem_map.mp (po.mem_iff.mp hv)
    obtain ⟨x, tk, h1, _⟩ := g e he
    exact ⟨x, tk, by rw [← qe]; exact h1⟩
  have hS := strs_of out all
  have pS : (out.map fun v => match v with | .str x _ => x | _ => (⟨#[]⟩ : Str)).Perm xs := by
    have q1 := po.map fun v => match v with | Value.str x _ => x | _ => (⟨#[]⟩ : Str)
    rw [List.map_map] at q1
    exact q1.trans pm
  generalize (out.map fun v => match v with | .str x _ => x | _ => (⟨#[]⟩ : Str)) = ss at hS pS
  refine wpAny_bind (wpAny_newList ?_ (by rw [eo, sizeLine_eq]; omega))
  have oL : (z.heap.push (seqObj "list" out.toArray 0)).get? z.heap.objs.size = some (seqObj "list" out.toArray 0) := Heap.get?_push_size _ rfl
  refine wpAny_bind (wpAny_holding (wpAny_call_entry slot_list_sort ⟨_, oL, rfl⟩ entry_list_sort (list_sort_treeK strKind_oneLt oL hS.keysOf (fun a b rest e => keyKind_strs (by rw [← e]; exact hS)) (by rw [eo]; exact h64) fun st hp hs => ⟨_, rfl, ?_⟩) (args_list_sort _)))
  obtain ⟨zs, z1, z2, z3⟩ := sorted_out_str hS hp hs
  obtain ⟨c, hcl⟩ := sortedHeap_at (vs := out) (out := (arrOf st).map (·.2)) oL
  have hlen : (zs.map V.str).length ≤ sizeLine := by rw [List.length_map, z2.length_eq, pS.length_eq, sizeLine_eq]; omega
  have old : ∀ b u, s.heap.get? b = some u → (sortedHeap (z.heap.push (seqObj "list" out.toArray 0)) z.heap.objs.size out ((arrOf st).map (·.2))).get? b = some u := fun b u e => by
    have lt := Heap.lt_size (kz b u e)
    rw [sortedHeap_old (Nat.ne_of_lt lt) (by rw [size_push']; exact Nat.lt_succ_of_lt lt)]
    exact Heap.get?_push_of_some _ (kz b u e)
  have hn : H z.heap.objs.size = none := I.hok.fresh sz
  have J : Inv X pins σ (upd H z.heap.objs.size (.lst (zs.map V.str))) { s with heap := sortedHeap (z.heap.push (seqObj "list" out.toArray 0)) z.heap.objs.size out ((arrOf st).map (·.2)), gens := z.gens, drawn := z.drawn, toks := z.toks } :=
    I.call (ch := []) (Un.laid old sz hn) (I.hok.laid old sz ⟨hlen, ((arrOf st).map (·.2)).toList, c, vals_of_strs z1, hcl⟩) (by rw [gz]; exact I.bare) (fun _ y => nomatch y)
  refine wpAny_pure ⟨_, rfl, ?_⟩
  have e : ({ z with heap := sortedHeap (z.heap.push (seqObj "list" out.toArray 0)) z.heap.objs.size out ((arrOf st).map (·.2)) } : Shared) = { s with heap := sortedHeap (z.heap.push (seqObj "list" out.toArray 0)) z.heap.objs.size out ((arrOf st).map (·.2)), gens := z.gens, drawn := z.drawn, toks := z.toks } := by
    cases z
    cases s
    cases oz
    rfl
  show EP X pins σ Q _ ({ z with heap := sortedHeap (z.heap.push (seqObj "list" out.toArray 0)) z.heap.objs.size out ((arrOf st).map (·.2)) } : Shared)
  rw [e]
  exact ⟨.ref _, _, J, rfl, q zs _ (z2.trans pS) z3 hn⟩
end
end Ts
namespace Dw
open PySem PySem.Spec PyProof.Rows L2 Tg LamX Ts
def DLenSet (T : TD) : TD := fun ρ K => T ρ fun d ρ1 => isL d fun xs => ∃ ys : List Str, xs = ys.map .str ∧ ys.length ≤ 1000 ∧ K (.int ((dedT ys).length : Nat)) ρ1
def DSortSet (T : TD) : TN := fun ρ K => T ρ fun d ρ1 => isL d fun xs => ∃ ys : List Str, xs = ys.map .str ∧ ys.length ≤ 1000 ∧ (dedT ys).length < 64 ∧ ∀ zs : List Str, zs.Perm (dedT ys) → sortedS zs = true → K (.l (zs.map .str)) ρ1
section
variable {C : DC} {Kf : PySem.W.Frag} {w : World}
theorem sb1000 {n : Nat} (h : n ≤ 1000) : n + 1 < scanBound := Nat.lt_of_le_of_lt (Nat.succ_le_succ h) (by decide)
instance iLenSet {t : TE} {T : TD} [r : Ref C t T] : Ref C (tCB (rLenT w) (tCons (tCB (rSetT Kf w) (tCons t tNil)) tNil)) (DLenSet T) := ⟨fun {σ H Q ρ K} I h k =>
  r.go I h fun d ρ1 v H1 q1 k1 I1 r1 => by
    obtain ⟨xs, rfl, ys, rfl, l1, q2⟩ := isL_go q1
    obtain ⟨a, o, vs, rfl, ha, rl⟩ := rp_list r1
    cases rpL_strs rl
    refine ⟨a, ys, rfl, .inl (.inr ⟨o, ha⟩), sb1000 l1, fun p np => ⟨p, dedT ys, rfl, upd_same, ?_, ?_⟩⟩
    · have := len_dedT ys
      exact Nat.lt_of_succ_lt (sb1000 (by omega))
    · exact k _ _ _ _ q2 (k1.trans (Kp.new np)) (I1.same (same_new np)) Rp.int⟩
instance iSortSet {t : TE} {T : TD} [r : Ref C t T] : RefN C (tCB (rSortT w) (tCons (tCB (rSetT Kf w) (tCons t tNil)) tNil)) (DSortSet T) := ⟨fun {σ H Q ρ K} I h k =>
  r.go I h fun d ρ1 v H1 q1 k1 I1 r1 => by
    obtain ⟨xs, rfl, ys, rfl, l1, l2, q2⟩ := isL_go q1
    obtain ⟨a, o, vs, rfl, ha, rl⟩ := rp_list r1
    cases rpL_strs rl
    refine ⟨a, ys, rfl, .inl (.inr ⟨o, ha⟩), sb1000 l1, fun p np => ⟨p, dedT ys, rfl, upd_same, l2, fun zs p2 pm so np2 => ?_⟩⟩
    have I2 := I1.same (same_new (o := SetSO w p (dedT ys)) np)
    obtain ⟨I3, k3, N3⟩ := I2.newL (xs := zs.map .str) ⟨_, np2, rfl, rpL_strs_of⟩
    exact k _ _ _ _ (q2 zs pm so) ((k1.trans (Kp.new np)).trans k3) I3 N3⟩
end
end Dw
end
section
set_option Elab.async false
set_option linter.all false
set_option maxRecDepth 100000
set_option maxHeartbeats 4000000
/-! Tg, part Zn: Dw: ==, in of data of any depth; comprehensions with two fors. -/
namespace Dw
open PySem PySem.Spec PyProof.Rows L2 Tg LamX
mutual
theorem Rp.dp {Kf : PySem.W.Frag} {H : Hp} : ∀ (d : PyData) (v : V), noC false true d = true → Rp H d v → Dp Kf H v d
  | .none, v, _, h => by simp only [Rp] at h; subst h; exact .non
  | .bool b, v, _, h => by simp only [Rp] at h; subst h; exact .bl b
  | .int i, v, _, h => by simp only [Rp] at h; subst h; exact .int i
  | .str x, v, _, h => by simp only [Rp] at h; subst h; exact .str x
  | .list ds, v, n, h => by
    simp only [noC, Bool.not_false, Bool.true_and] at n
    simp only [Rp] at h
    obtain ⟨a, o, xs, rfl, ha, r⟩ := h
    exact .lst (.inl (.inr ⟨o, ha⟩)) (RpL.dp ds xs n r)
  | .tuple ds, v, n, h => by
    simp only [noC] at n
    simp only [Rp] at h
    obtain ⟨a, xs, rfl, ha, r⟩ := h
    exact .tup (SqT.of ha) (RpL.dp ds xs n r)
  | .dict kds, v, n, h => by simp [noC] at n
theorem RpL.dp {Kf : PySem.W.Frag} {H : Hp} : ∀ (ds : List PyData) (xs : List V), noCL false true ds = true → RpL H ds xs → DpAll Kf H xs ds
  | [], xs, _, h => by simp only [RpL] at h; subst h; exact .nil
  | d :: ds, xs, n, h => by
    simp only [noCL, Bool.and_eq_true] at n
    simp only [RpL] at h
    obtain ⟨x, r, rfl, h1, h2⟩ := h
    exact .cons (Rp.dp d x n.1 h1) (RpL.dp ds r n.2 h2)
end
/-- can be compared -/
def okE (d : PyData) : Bool := noC false true d && SeqAt.shaped d
def RDeq : D2 := fun d e K => okE d = true ∧ okE e = true ∧ K (.bool (PyData.eqv d e))
def RDne : D2 := fun d e K => okE d = true ∧ okE e = true ∧ K (.bool (!PyData.eqv d e))
def RDin (neg : Bool) : D2 := fun d e K => okE d = true ∧ okE e = true ∧ match e with
  | .list xs => K (.bool (if neg then !(xs.any fun z => PyData.eqv z d) else (xs.any fun z => PyData.eqv z d)))
  | .tuple xs => K (.bool (if neg then !(xs.any fun z => PyData.eqv z d) else (xs.any fun z => PyData.eqv z d)))
  | _ => False
theorem okE_go {d : PyData} (h : okE d = true) : noC false true d = true ∧ SeqAt.shaped d = true := Bool.and_eq_true_iff.mp h
section
variable {X : Cx}
theorem dEqD (hu : X.A.units + 64 < cLine) : OpR X (compareOp .Eq) (rD RDeq) := OpR.of (op_eqD hu) fun x y H Q q => by
  obtain ⟨d, e, K, r1, r2, ⟨o1, o2, q⟩, k⟩ := q
  exact ⟨d, e, Rp.dp d x (okE_go o1).1 r1, Rp.dp e y (okE_go o2).1 r2, (okE_go o1).2, (okE_go o2).2, k _ _ _ q (fun _ _ e => e) Rp.bl⟩
theorem dNeD (hu : X.A.units + 64 < cLine) : OpR X (compareOp .NotEq) (rD RDne) := OpR.of (op_neD hu) fun x y H Q q => by
  obtain ⟨d, e, K, r1, r2, ⟨o1, o2, q⟩, k⟩ := q
  exact ⟨d, e, Rp.dp d x (okE_go o1).1 r1, Rp.dp e y (okE_go o2).1 r2, (okE_go o1).2, (okE_go o2).2, k _ _ _ q (fun _ _ e => e) Rp.bl⟩
def rInT (K : PySem.W.Frag) (neg : Bool) : R2 := fun x y H Q => ∃ d ds, Dp K H x d ∧ (Dp K H y (.list ds) ∨ Dp K H y (.tuple ds)) ∧ SeqAt.shaped d = true ∧ PyData.canLayAll0 ds = true ∧ Q (.bl (if neg then !(ds.any fun z => PyData.eqv z d) else (ds.any fun z => PyData.eqv z d))) H
theorem op_inT (hu : X.A.units + 65 < cLine) : OpR X (compareOp .In) (rInT X.K false) := by
  intro pins s σ H x y v u Q I rx ry h
  obtain ⟨d, ds, hd, he, sd, se, q⟩ := h
  obtain ⟨as, r1⟩ := Dp.reads I d x v hd rx
  rcases he with he | he
  · obtain ⟨bs, r2⟩ := Dp.reads I (.list ds) y u he ry
    exact SeqAt.in_list_reads r2 r1 se (SeqAt.canLay_of_shaped sd) (room_in_shaped sd hu) ⟨.bl _, H, I, rfl, q⟩
  · obtain ⟨bs, r2⟩ := Dp.reads I (.tuple ds) y u he ry
    exact SeqAt.in_tuple_reads r2 r1 se (SeqAt.canLay_of_shaped sd) (room_in_shaped sd hu) ⟨.bl _, H, I, rfl, q⟩
theorem op_notInT (hu : X.A.units + 65 < cLine) : OpR X (compareOp .NotIn) (rInT X.K true) := by
  intro pins s σ H x y v u Q I rx ry h
  obtain ⟨d, ds, hd, he, sd, se, q⟩ := h
  obtain ⟨as, r1⟩ := Dp.reads I d x v hd rx
  rcases he with he | he
  · obtain ⟨bs, r2⟩ := Dp.reads I (.list ds) y u he ry
    exact SeqAt.notIn_list_reads r2 r1 se (SeqAt.canLay_of_shaped sd) (room_in_shaped sd hu) ⟨.bl _, H, I, rfl, q⟩
  · obtain ⟨bs, r2⟩ := Dp.reads I (.tuple ds) y u he ry
    exact SeqAt.notIn_tuple_reads r2 r1 se (SeqAt.canLay_of_shaped sd) (room_in_shaped sd hu) ⟨.bl _, H, I, rfl, q⟩
theorem inT_go {neg : Bool} {x y : V} {H : Hp} {Q : VK} (q : rD (RDin neg) x y H Q) : rInT X.K neg x y H Q := by
  obtain ⟨d, e, K, r1, r2, ⟨o1, o2, q⟩, k⟩ := q
  have h1 := okE_go o1
  have h2 := okE_go o2
  cases e with
  | list xs => exact ⟨d, xs, Rp.dp d x h1.1 r1, .inl (Rp.dp _ y h2.1 r2), h1.2, by have := SeqAt.canLay_of_shaped h2.2; simpa [PyData.canLay0] using this, k _ _ _ q (fun _ _ e => e) Rp.bl⟩
  | tuple xs => exact ⟨d, xs, Rp.dp d x h1.1 r1, .inr (Rp.dp _ y h2.1 r2), h1.2, by have := SeqAt.canLay_of_shaped h2.2; simpa [PyData.canLay0] using this, k _ _ _ q (fun _ _ e => e) Rp.bl⟩
  | _ => exact q.elim
theorem dInD (hu : X.A.units + 65 < cLine) : OpR X (compareOp .In) (rD (RDin false)) := OpR.of (op_inT hu) fun x y H Q q => inT_go q
theorem dNotInD (hu : X.A.units + 65 < cLine) : OpR X (compareOp .NotIn) (rD (RDin true)) := OpR.of (op_notInT hu) fun x y H Q q => inT_go q
end
/-! ### texts in lists, compared -/
def strOkS (x : Str) : Bool := PyData.strOk x
theorem noCL_strs (l m : Bool) : ∀ xs : List Str, noCL l m (xs.map .str) = true
  | [] => rfl
  | x :: xs => by simp [noCL, noC, noCL_strs l m xs]
theorem lay_strs : ∀ {xs : List Str}, (∀ x ∈ xs, PyData.strOk x = true) → PyData.canLayAll0 (xs.map .str) = true
  | [], _ => rfl
  | x :: xs, h => by
    simp only [List.map_cons, PyData.canLayAll0, Bool.and_eq_true]
    exact ⟨by simpa [PyData.canLay0] using h x List.mem_cons_self, lay_strs fun y hy => h y (List.mem_cons_of_mem _ hy)⟩
theorem depth_strs : ∀ xs : List Str, PyData.depthAll (xs.map .str) = 0
  | [] => rfl
  | x :: xs => by simp [PyData.depthAll, PyData.depth, depth_strs xs]
theorem okE_strs {xs : List Str} (h : ∀ x ∈ xs, PyData.strOk x = true) : okE (.list (xs.map .str)) = true := by
  unfold okE SeqAt.shaped
  simp only [noC, Bool.not_false, Bool.true_and, noCL_strs, PyData.canLay0, lay_strs h, PyData.depth, depth_strs]
  decide
theorem okE_strT {xs : List Str} (h : ∀ x ∈ xs, PyData.strOk x = true) : okE (.tuple (xs.map .str)) = true := by
  unfold okE SeqAt.shaped
  simp only [noC, Bool.true_and, noCL_strs, PyData.canLay0, lay_strs h, PyData.depth, depth_strs]
  decide
theorem eqvAll_strs : ∀ xs ys : List Str, PyData.eqvAll (xs.map .str) (ys.map .str) = decide (xs = ys)
  | [], [] => by simp [PyData.eqvAll]
  | [], y :: ys => by simp [PyData.eqvAll]
  | x :: xs, [] => by simp [PyData.eqvAll]
  | x :: xs, y :: ys => by
    simp only [List.map_cons, PyData.eqvAll, PyData.eqv, eqvAll_strs xs ys]
    rw [Bool.eq_iff_iff]
    simp
theorem eqv_strs (xs ys : List Str) : PyData.eqv (.list (xs.map .str)) (.list (ys.map .str)) = decide (xs = ys) := by
  simp only [PyData.eqv, eqvAll_strs]
/-! ### [e for x in a for y in b] -/
/-- the turns of the inner for: acc ahead of it, acc' behind it -/
def LcI (items : List PyData) (G : TDG) (ts : List Nat) (TT : TDT) (TE : TD) (vs : List Nat) (ρ1 : DSt) (acc : List PyData) (K : List PyData → DSt → Prop) : Prop := items.length ≤ 10000 ∧ ts.all (vs.contains ·) = true ∧ ∃ W : Nat → List PyData → DSt → Prop, W 0 acc (wipeD ρ1 vs) ∧
  (∀ i x acc ρ, items[i]? = some x → W i acc ρ → G x ρ fun ρ2 => TT ρ2 fun b ρ3 => if b = true then TE ρ3 fun d ρ4 => acc.length < 1000000 ∧ W (i + 1) (acc ++ [d]) (wipeD ρ4 vs) else W (i + 1) acc (wipeD ρ3 vs)) ∧ ∀ acc ρ, W items.length acc ρ → K acc ρ
end Dw
end
section
set_option Elab.async false
set_option linter.all false
set_option maxRecDepth 100000
set_option maxHeartbeats 4000000
/-! Tg, part Zo: Dw: comprehensions with two fors. -/
namespace Dw
open PySem PySem.Spec PyProof.Rows L2 Tg LamX
def Lc2B (items : List PyData) (G : TDG) (ts : List Nat) (TT : TDT) (T1 : TDI) (G1 : TDG) (ts1 : List Nat) (TT1 : TDT) (TE : TD) (vs vs1 : List Nat) (ρ1 : DSt) (K : DV → DSt → Prop) : Prop := items.length ≤ 10000 ∧ ts.all (vs.contains ·) = true ∧ vs1.all (vs.contains ·) = true ∧ ∃ W : Nat → List PyData → DSt → Prop, W 0 [] (wipeD ρ1 vs) ∧
  (∀ i x acc ρ, items[i]? = some x → W i acc ρ → G x ρ fun ρ2 => TT ρ2 fun b ρ3 => if b = true then T1 ρ3 fun items1 ρ4 => LcI items1 G1 ts1 TT1 TE vs1 ρ4 acc (fun acc' ρ5 => W (i + 1) acc' (wipeD ρ5 vs)) else W (i + 1) acc (wipeD ρ3 vs)) ∧ ∀ acc ρ, W items.length acc ρ → K (.l acc) ρ
def DLc2 (T : TDI) (G : TDG) (ts : List Nat) (TT : TDT) (T1 : TDI) (G1 : TDG) (ts1 : List Nat) (TT1 : TDT) (TE : TD) (vs vs1 : List Nat) : TN := fun ρ K => T ρ fun items ρ1 => Lc2B items G ts TT T1 G1 ts1 TT1 TE vs vs1 ρ1 K
theorem wipe_mem {σ : L2.St} {vs : List Nat} {i : Nat} (h : i ∈ vs) : (wipe σ vs)[i]? = if i < σ.length then some none else none := by
  have hl := wipe_length σ vs
  split
  · rename_i hi
    have hi2 : i < (wipe σ vs).length := by omega
    rw [List.getElem?_eq_getElem hi2]
    cases q : (wipe σ vs)[i] with
    | none => rfl
    | some x => exact absurd h (wipe_some (σ := σ) (x := x) (by rw [List.getElem?_eq_getElem hi2, q])).2
  · rw [List.getElem?_eq_none (by omega)]
theorem wipe_sub {σ : L2.St} {vs vs1 : List Nat} (h : vs1.all (vs.contains ·) = true) : wipe (wipe σ vs1) vs = wipe σ vs := by
  apply List.ext_getElem?
  intro i
  by_cases hi : i ∈ vs
  · rw [wipe_mem hi, wipe_mem hi, wipe_length]
  · rw [wipe_ne hi, wipe_ne hi, wipe_ne fun z => hi (by simpa using List.all_eq_true.mp h i z)]
theorem wipeD_sub {ρ : DSt} {vs vs1 : List Nat} (h : vs1.all (vs.contains ·) = true) : wipeD (wipeD ρ vs1) vs = wipeD ρ vs := by
  apply List.ext_getElem?
  intro i
  by_cases hi : i ∈ vs
  · rw [wipeD_mem hi, wipeD_mem hi, wipeD_length]
  · rw [wipeD_ne hi, wipeD_ne hi, wipeD_ne fun z => hi (by simpa using List.all_eq_true.mp h i z)]
/-- the inner turns, one by one -/
theorem lc_in {J : It} {n : Nat} {Gd : Hp → Prop} {Y : Nat → Hp → V → Hp → Prop} (w : Walk J n Gd Y) {g : TG} {tt : TT} {te : TE} {vs : List Nat} {σ : L2.St} {H1 : Hp} {D : Addr} {Nx : Hp → Prop} (Pv : Nat → Hp → Prop) (h0 : Pv 0 H1) (hG : ∀ i H, i ≤ n → Pv i H → Gd H)
    (hs : ∀ i x H H', i < n → Pv i H → Y i H x H' → g x (wipe σ vs) H' fun σ2 H2 => wipe σ2 vs = wipe σ vs ∧ tt σ2 H2 fun b H3 =>
      if b = true then te σ2 H3 fun y H4 => ∃ acc, H4 D = some (.lst acc) ∧ acc.length < sizeLine ∧ Pv (i + 1) (upd H4 D (.lst (acc ++ [y]))) else Pv (i + 1) H3) (hd : ∀ H, Pv n H → Nx H) :
    ∃ W1 : Nat → Nat → Hp → Prop, (∃ m, W1 0 m H1) ∧ ∀ j k H, W1 j k H →
      (J.stop j H ∧ Nx H) ∨ (J.go j H ∧ ∃ Nx1 : Hp → Prop, (∀ H', Nx1 H' → ∃ k', k' < k ∧ W1 (j + 1) k' H') ∧ ∀ x H', J.yld j H x H' → g x (wipe σ vs) H' fun σ3 H5 => wipe σ3 vs = wipe σ vs ∧ tt σ3 H5 fun b H6 =>
        if b = true then te σ3 H6 fun y H7 => ∃ acc, H7 D = some (.lst acc) ∧ acc.length < sizeLine ∧ Nx1 (upd H7 D (.lst (acc ++ [y]))) else Nx1 H6) := by
  refine ⟨fun i m H => m = n - i ∧ i ≤ n ∧ Pv i H, ⟨n, by simp, Nat.zero_le _, h0⟩, ?_⟩
  rintro i m H ⟨rfl, hi, p⟩
  have q := hG i H hi p
  by_cases hlt : i < n
  · exact .inr ⟨w.goes i H hlt q, Pv (i + 1), fun H' p' => ⟨n - (i + 1), by omega, rfl, hlt, p'⟩, fun x H' y => hs i x H H' hlt p (w.yields i H x H' hlt q y)⟩
  · obtain rfl : i = n := by omega
    exact .inl ⟨w.stops H q, hd H p⟩
theorem lc_out {J : It} {n : Nat} {Gd : Hp → Prop} {Y : Nat → Hp → V → Hp → Prop} (w : Walk J n Gd Y) {B : V → Hp → (Hp → Prop) → Prop} {Qd : Hp → Prop} {H1 : Hp} (Pv : Nat → Hp → Prop) (h0 : Pv 0 H1) (hG : ∀ i H, i ≤ n → Pv i H → Gd H)
    (hs : ∀ i x H H', i < n → Pv i H → Y i H x H' → B x H' (Pv (i + 1))) (hd : ∀ H, Pv n H → Qd H) :
    ∃ W : Nat → Nat → Hp → Prop, (∃ m, W 0 m H1) ∧ ∀ i m H, W i m H → (J.stop i H ∧ Qd H) ∨ (J.go i H ∧ ∃ Nx : Hp → Prop, (∀ H', Nx H' → ∃ m', m' < m ∧ W (i + 1) m' H') ∧ ∀ x H', J.yld i H x H' → B x H' Nx) := by
  refine ⟨fun i m H => m = n - i ∧ i ≤ n ∧ Pv i H, ⟨n, by simp, Nat.zero_le _, h0⟩, ?_⟩
  rintro i m H ⟨rfl, hi, p⟩
  have q := hG i H hi p
  by_cases hlt : i < n
  · exact .inr ⟨w.goes i H hlt q, Pv (i + 1), fun H' p' => ⟨n - (i + 1), by omega, rfl, hlt, p'⟩, fun x H' y => hs i x H H' hlt p (w.yields i H x H' hlt q y)⟩
  · obtain rfl : i = n := by omega
    exact .inl ⟨w.stops H q, hd H p⟩
section
variable {C : DC}
instance iLc2 {wi wi1 : TI} {g g1 : TG} {tt tt1 : TT} {te : TE} {vs vs1 ts ts1 : List Nat} {T T1 : TDI} {G G1 : TDG} {TT TT1 : TDT} {TE : TD} [r : RefI C wi T] [s : ∀ C', RefG C' g G ts] [s1 : ∀ C', RefT C' tt TT] [ri : ∀ C', RefI C' wi1 T1] [sg : ∀ C', RefG C' g1 G1 ts1] [st : ∀ C', RefT C' tt1 TT1] [s2 : ∀ C', Ref C' te TE] :
    RefN C (tLc2 wi g tt wi1 g1 tt1 te vs vs1) (DLc2 T G ts TT T1 G1 ts1 TT1 TE vs vs1) := ⟨fun {σ H Q ρ K} I h k =>
  r.go I h fun items ρ1 J H1 q1 k1 I1 wd D nD => by
    obtain ⟨hl, hts, hvv, W, w0, hs, hd⟩ := q1
    obtain ⟨Gg, Y, wk, hG, hY⟩ := wd.ex
    obtain ⟨n0, ns, nn⟩ := I1.h0 nD
    have I1w : DI C (wipeD ρ1 vs) (wipe σ vs) (upd H1 D (.lst [])) := (I1.wiped (σ' := wipe σ vs) wipe_wipe.symm).same (same_new nD)
    have ap0 : ∀ (i : Nat) y, (wipeD ρ1 vs)[i]? = some (some y) → y.mt = true → (wipe σ vs)[i]? ≠ some (some (.ref D)) := (I1.wiped (σ' := wipe σ vs) wipe_wipe.symm).apart nD
    refine lc_out wk (B := fun x H' Nx => g x (wipe σ vs) H' fun σ2 H2 => wipe σ2 vs = wipe σ vs ∧ tt σ2 H2 fun b H3 =>
      if b = true then wi1 σ2 H3 fun J1 H4 => ∃ W1 : Nat → Nat → Hp → Prop, (∃ m, W1 0 m H4) ∧ ∀ j k H, W1 j k H →
        (J1.stop j H ∧ Nx H) ∨ (J1.go j H ∧ ∃ Nx1 : Hp → Prop, (∀ H', Nx1 H' → ∃ k', k' < k ∧ W1 (j + 1) k' H') ∧ ∀ x H', J1.yld j H x H' → g1 x (wipe σ2 vs1) H' fun σ3 H5 => wipe σ3 vs1 = wipe σ2 vs1 ∧ tt1 σ3 H5 fun b H6 =>
          if b = true then te σ3 H6 fun y H7 => ∃ acc, H7 D = some (.lst acc) ∧ acc.length < sizeLine ∧ Nx1 (upd H7 D (.lst (acc ++ [y]))) else Nx1 H6)
      else Nx H3)
      (fun i H' => ∃ ρ' acc vsL, DI (C.hold D (.lst vsL) nn) ρ' (wipe σ vs) H' ∧ RpL H' acc vsL ∧ Kp H1 H' ∧ W i acc ρ' ∧ wipeD ρ' vs = ρ') ⟨_, [], [], I1w.hold upd_same ap0, RpL.nil, Kp.new nD, w0, wipeD_wipeD⟩ (fun i H' _ ⟨_, _, _, _, _, k, _⟩ => hG H' k) ?_ ?_
    · rintro i x H2 H3 hi ⟨ρ2, acc, vsL, I2, ra, k2, w2, e2⟩ y
      obtain ⟨s3, d, hd, rd⟩ := hY i H2 x H3 hi k2 y
      have k3 := k2.trans (Kp.same s3)
      refine (s _).go (I2.same s3) rd (hs i d acc ρ2 hd w2) fun ρ4 σ4 H4 q4 k4 I4 t4 => ⟨wipe_tch t4 hts, ?_⟩
      have wt := wipe_tch t4 hts
      refine (s1 _).go I4 q4 fun b ρ5 H5 q5 k5 I5 => ?_
      have k15 := (k3.trans k4).trans k5
      have ra5 : RpL H5 acc vsL := RpL.keep (((Kp.same s3).trans k4).trans k5) _ _ ra
      cases b with
      | false =>
        obtain ⟨J6, hD6, ap6⟩ := I5.unhold
        have J7 := J6.wiped (vs := vs) (σ' := wipe σ vs) (by rw [wt, wipe_wipe])
        have ap7 : ∀ (i : Nat) y, (wipeD ρ5 vs)[i]? = some (some y) → y.mt = true → (wipe σ vs)[i]? ≠ some (some (.ref D)) := fun i y e m => by
          obtain ⟨e1, e2⟩ := wipeD_some e
          rw [← wt, wipe_ne e2]
          exact ap6 i y e1 m
        exact ⟨_, acc, vsL, J7.hold hD6 ap7, ra5, k15, q5, wipeD_wipeD⟩
      | true =>
        refine (ri _).go I5 q5 fun its1 ρ6 J1 H6 q6 k6 I6 wd1 => ?_
        obtain ⟨hl1, hts1, W1, w10, hs1, hd1⟩ := q6
        obtain ⟨Gg1, Y1, wk1, hG1, hY1⟩ := wd1.ex
        have k16 := k15.trans k6
        obtain ⟨J6, hD6, ap6⟩ := I6.unhold
        have J6w := J6.wiped (vs := vs1) (σ' := wipe σ4 vs1) wipe_wipe.symm
        have ap6w : ∀ (i : Nat) y, (wipeD ρ6 vs1)[i]? = some (some y) → y.mt = true → (wipe σ4 vs1)[i]? ≠ some (some (.ref D)) := fun i y e m => by
          obtain ⟨e1, e2⟩ := wipeD_some e
          rw [wipe_ne e2]
          exact ap6 i y e1 m
        refine lc_in wk1 (fun j H' => ∃ ρ' acc vsL, DI (C.hold D (.lst vsL) nn) ρ' (wipe σ4 vs1) H' ∧ RpL H' acc vsL ∧ Kp H6 H' ∧ W1 j acc ρ' ∧ wipeD ρ' vs1 = ρ') ⟨_, acc, vsL, J6w.hold hD6 ap6w, RpL.keep k6 _ _ ra5, Kp.refl _, w10, wipeD_wipeD⟩ (fun j H' _ ⟨_, _, _, _, _, k, _⟩ => hG1 H' k) ?_ ?_
        · rintro j x1 H7 H8 hj ⟨ρ7, acc7, vs7, I7, ra7, k7, w7, e7⟩ y1
          obtain ⟨s8, d1, hd8, rd1⟩ := hY1 j H7 x1 H8 hj k7 y1
          have k8 := k7.trans (Kp.same s8)
          refine (sg _).go (I7.same s8) rd1 (hs1 j d1 acc7 ρ7 hd8 w7) fun ρ9 σ9 H9 q9 k9 I9 t9 => ⟨wipe_tch t9 hts1, ?_⟩
          have wt9 := wipe_tch t9 hts1
          refine (st _).go I9 q9 fun b ρa Ha qa ka Ia => ?_
          have k6a := (k8.trans k9).trans ka
          have raa : RpL Ha acc7 vs7 := RpL.keep (((Kp.same s8).trans k9).trans ka) _ _ ra7
          cases b with
          | true =>
            refine (s2 _).go Ia qa fun z ρb wb Hb qb kb Ib rb => ?_
            obtain ⟨Jb, hDb, apb⟩ := Ib.unhold
            have Jc := Jb.wiped (vs := vs1) (σ' := wipe σ4 vs1) (by rw [wt9, wipe_wipe])
            have apc : ∀ (i : Nat) y, (wipeD ρb vs1)[i]? = some (some y) → y.mt = true → (wipe σ4 vs1)[i]? ≠ some (some (.ref D)) := fun i y e m => by
              obtain ⟨e1, e2⟩ := wipeD_some e
              rw [← wt9, wipe_ne e2]
              exact apb i y e1 m
            have kD := kp_but hDb True.intro (But.upd (p := D) (H := Hb) (o := .lst (vs7 ++ [wb])))
            have Jd := Jc.but hDb True.intro (But.upd (o := .lst (vs7 ++ [wb]))) n0 ns nn apc
            have lk : acc7.length = vs7.length := rpL_len raa
            refine ⟨vs7, hDb, ?_, _, acc7 ++ [z], vs7 ++ [wb], Jd.hold upd_same apc, RpL.keep kD _ _ (rpL_snoc rb (RpL.keep kb _ _ raa)), (k6a.trans kb).trans kD, qb.2, wipeD_wipeD⟩
            have := qb.1
            rw [← lk, sizeLine_eq]
            omega
          | false =>
            obtain ⟨Jb, hDb, apb⟩ := Ia.unhold
            have Jc := Jb.wiped (vs := vs1) (σ' := wipe σ4 vs1) (by rw [wt9, wipe_wipe])
            have apc : ∀ (i : Nat) y, (wipeD ρa vs1)[i]? = some (some y) → y.mt = true → (wipe σ4 vs1)[i]? ≠ some (some (.ref D)) := fun i y e m => by
              obtain ⟨e1, e2⟩ := wipeD_some e
              rw [← wt9, wipe_ne e2]
              exact apb i y e1 m
            exact ⟨_, acc7, vs7, Jc.hold hDb apc, raa, k6a, qa, wipeD_wipeD⟩
        · rintro H7 ⟨ρ7, acc7, vs7, I7, ra7, k7, w7, e7⟩
          obtain ⟨J7, hD7, ap7⟩ := I7.unhold
          have ew : wipe (wipe σ4 vs1) vs = wipe (wipe σ vs) vs := by rw [wipe_sub hvv, wt, wipe_wipe]
          have J8 := J7.wiped (vs := vs) (σ' := wipe σ vs) ew
          have ap8 : ∀ (i : Nat) y, (wipeD ρ7 vs)[i]? = some (some y) → y.mt = true → (wipe σ vs)[i]? ≠ some (some (.ref D)) := fun i y e m => by
            obtain ⟨e1, e2⟩ := wipeD_some e
            rw [← wipe_wipe, ← ew, wipe_ne e2]
            exact ap7 i y e1 m
          exact ⟨_, acc7, vs7, J8.hold hD7 ap8, ra7, k16.trans k7, hd1 acc7 ρ7 w7, wipeD_wipeD⟩
    · rintro H2 ⟨ρ2, acc, vsL, I2, ra, k2, w2, e2⟩
      obtain ⟨J2, hD2, ap2⟩ := I2.unhold
      have J3 := J2.wiped (vs := vs) (σ' := σ) wipe_wipe
      rw [e2] at J3
      refine k _ _ _ _ (hd acc ρ2 w2) (k1.trans k2) J3 ⟨rfl, ⟨D, vsL, rfl, hD2, ra, n0, ns, nn⟩, fun i y e m => ?_⟩
      rw [← e2] at e
      obtain ⟨e1, e3⟩ := wipeD_some e
      rw [← wipe_ne e3]
      exact ap2 i y e1 m⟩
end
end Dw
end
section
set_option Elab.async false
set_option linter.all false
set_option maxRecDepth 100000
set_option maxHeartbeats 4000000
/-! Tg, part Zp: enumerate(xs, n), xs a list or a tuple that stands still. -/
namespace En
open PySem PySem.Spec PyProof.Rows L2
/-- what stands at a is xs -/
def At (H : Hp) (a : Addr) (xs : List V) : Prop := (∃ o, H a = some (.frz o (.lst xs))) ∨ H a = some (.tup xs)
/-- its iterator, behind i items -/
def ItAt (isT : Bool) (h : Heap) (it a : Addr) (i : Nat) : Prop := if isT = true then h.IsTupleIter it a i else h.IsListIter it a i
def CoAt (isT : Bool) (h : Heap) (a : Addr) (its : Array Value) : Prop := if isT = true then h.IsTuple a its else h.IsList a its
theorem draws {P : Program} {w : World} {A : Around} (isT : Bool) (hh : A.handled = none) (it a : Addr) (ne : a ≠ it) (its : Array Value) :
    Draws P w A it [it, a] its.size (fun i v => its[i]? = some v) (fun i h => ItAt isT h it a i ∧ CoAt isT h a its) := by
  cases isT with
  | true => exact Draws.tuple hh it a ne its
  | false => exact Draws.list hh it a ne its
theorem itAt_obj {isT : Bool} {h : Heap} {it a : Addr} {i : Nat} (st : ItAt isT h it a i) : ∃ o, h.get? it = some o ∧ ∀ v, o.data ≠ .cell v := by
  cases isT with
  | true =>
    obtain ⟨o, ho, _, hd⟩ := (show h.IsTupleIter it a i from st)
    exact ⟨o, ho, fun v q => by rw [hd] at q; cases q⟩
  | false =>
    obtain ⟨o, ho, _, hd⟩ := (show h.IsListIter it a i from st)
    exact ⟨o, ho, fun v q => by rw [hd] at q; cases q⟩
theorem itAt_at {isT : Bool} {h h' : Heap} {it a : Addr} {i : Nat} (st : ItAt isT h it a i) (k : ∀ o, h.get? it = some o → h'.get? it = some o) : ItAt isT h' it a i := by
  cases isT with
  | true => exact (show h.IsTupleIter it a i from st).at k
  | false => exact (show h.IsListIter it a i from st).at k
/-- the tracked thing is of this sort -/
def Is (isT : Bool) (H : Hp) (a : Addr) (xs : List V) : Prop := if isT = true then H a = some (.tup xs) else ∃ o, H a = some (.frz o (.lst xs))
theorem is_co {X : Cx} {pins : List (Addr × Obj)} {σ : L2.St} {H : Hp} {s : Shared} {isT : Bool} {a : Addr} {xs : List V} (I : Inv X pins σ H s) (h : Is isT H a xs) : ∃ its : List Value, Vals xs its ∧ CoAt isT s.heap a its.toArray := by
  cases isT with
  | true =>
    obtain ⟨its, rv, p, _⟩ := I.tuple (SqT.of (show H a = some (.tup xs) from h))
    exact ⟨its, rv, p⟩
  | false =>
    obtain ⟨o, h⟩ := (show ∃ o, H a = some (.frz o (.lst xs)) from h)
    obtain ⟨its, rv, p, _⟩ := I.list (.inl (.inr ⟨o, h⟩))
    exact ⟨its, rv, p.isList⟩
theorem at_is {H : Hp} {a : Addr} {xs : List V} (h : At H a xs) : ∃ b, Is b H a xs := by
  rcases h with h | h
  · exact ⟨false, h⟩
  · exact ⟨true, h⟩
theorem is_some {H : Hp} {a : Addr} {xs : List V} {isT : Bool} (h : Is isT H a xs) : ∃ u, H a = some u := by
  cases isT with
  | true => exact ⟨_, h⟩
  | false =>
    obtain ⟨o, h⟩ := (show ∃ o, H a = some (.frz o (.lst xs)) from h)
    exact ⟨_, h⟩
def ItenB (isT : Bool) (k0 : Int) (a : Addr) (xs : List V) : It :=
  ⟨fun i H => Is isT H a xs ∧ i < xs.length, fun i H v H' => ∃ T x, v = .ref T ∧ H T = none ∧ H' = upd H T (.tup [.int (k0 + (i : Nat)), x]) ∧ xs[i]? = some x, fun i H => Is isT H a xs ∧ i = xs.length⟩
theorem turn_en {P : Program} {w : World} {K : PySem.W.Frag} {elts : List Expr} {kk : Nat} {tpos : Pos} (isT : Bool) (k0 : Int) (a e it : Addr) (xs : List V) :
    Turn P w K (.Tuple elts kk tpos) (ItenB isT k0 a xs) [e, it] e (fun i h => (∃ old, IsEnum h e it (k0 + (i : Nat)) old) ∧ ItAt isT h it a i ∧ e ≠ it) where
  mem := by simp
  obj := fun i h st b hb => by
    obtain ⟨⟨old, he⟩, hit, _⟩ := st
    rcases (by simpa using hb : b = e ∨ b = it) with z | z
    · rw [z]; exact ⟨_, he, fun v q => nomatch q⟩
    · rw [z]; exact itAt_obj hit
  keep := fun i h h' st k => let ⟨⟨old, he⟩, hit, ne⟩ := st; ⟨⟨old, k e (by simp) _ he⟩, itAt_at hit fun o q => k it (by simp) o q, ne⟩
  item := by
    intro X hP hw hK hc i pins s σ H E I hf st hg
    subst hP hw hK
    obtain ⟨⟨old, he⟩, hit, ne⟩ := st
    obtain ⟨hq, hi⟩ := hg
    obtain ⟨u, hu⟩ := is_some hq
    obtain ⟨its, rv, co⟩ := is_co I hq
    have el : its.length = xs.length := (rv.length).symm
    have ea : e ≠ a := fun z => by
      have q := (hf e (by simp)).1
      rw [z, hu] at q
      cases q
    have ia : a ≠ it := fun z => by
      have q := (hf it (by simp)).1
      rw [← z, hu] at q
      cases q
    have lte : e < s.heap.objs.size := Heap.lt_size he
    have lti : it < s.heap.objs.size := by obtain ⟨o, q, _⟩ := itAt_obj hit; exact Heap.lt_size q
    refine wpAny_pyNext_enum_itemC (draws isT (by simp [I.ok.hd hc]) it a ia its.toArray) he ⟨hit, co⟩ (by simp; omega) ne (by simp [ne, ea]) fun v h' tk hv ho st' hT hz hk => ?_
    have hx : xs[i]? = some xs[i] := List.getElem?_eq_getElem hi
    obtain ⟨v', hv', rx⟩ := rv.get hx
    obtain rfl : v = v' := by
      have : its[i]? = some v := by simpa using hv
      rw [hv'] at this
      exact (Option.some.inj this).symm
    refine ⟨_, rfl, wpAny_letOwnedTupleGo_enum (s := { s with heap := h', toks := tk + 1 }) ho fun h2 he2 sb => ?_⟩
    have hT2 : h2.get? s.heap.objs.size = some { cls := .type "tuple", data := .seq #[.int (k0 + (i : Nat)) tk, v] } := (sb.2 _ (Nat.ne_of_gt lte)).trans hT
    have new : ObjOk X.prog X.w (upd H s.heap.objs.size (.tup [.int (k0 + (i : Nat)), xs[i]])) h2 s.heap.objs.size (.tup [.int (k0 + (i : Nat)), xs[i]]) :=
      ⟨by show 2 ≤ sizeLine; decide, [.int (k0 + (i : Nat)) tk, v], .cons ⟨_, rfl⟩ (.cons rx .nil), ⟨_, hT2, rfl, _, rfl⟩⟩
    have I1 : Inv X pins σ (upd H s.heap.objs.size (.tup [.int (k0 + (i : Nat)), xs[i]])) { s with heap := h2, toks := tk + 1 } :=
      I.turnedNew (ch := [e, it]) (fun b ob hb q => (sb.2 b (fun z => hb (by simp [z]))).trans (hk b ob (fun z => hb (by simp [z])) (fun z => hb (by simp [z])) q)) hf (Nat.le_refl _) new
    refine ⟨.ref s.heap.objs.size, _, I1, rfl, ⟨_, xs[i], rfl, I.hok.fresh (Nat.le_refl _), rfl, hx⟩, ⟨⟨v, ?_⟩, itAt_at st'.1 fun o q => (sb.2 it (Ne.symm ne)).trans q, ne⟩, fun b hb => ?_⟩
    · rw [show k0 + ((i + 1 : Nat) : Int) = k0 + (i : Nat) + 1 by omega]
      exact he2
    · have lb : b < s.heap.objs.size := by
        rcases (by simpa using hb : b = e ∨ b = it) with z | z
        · rw [z]; exact lte
        · rw [z]; exact lti
      rw [upd_ne (Nat.ne_of_lt lb)]
      exact (hf b hb).1
  done := by
    intro X hP hw hK hc i pins s σ H E I hf st hg
    subst hP hw hK
    obtain ⟨⟨old, he⟩, hit, ne⟩ := st
    obtain ⟨hq, hi⟩ := hg
    obtain ⟨u, hu⟩ := is_some hq
    obtain ⟨its, rv, co⟩ := is_co I hq
    have el : its.length = xs.length := (rv.length).symm
    have ia : a ≠ it := fun z => by
      have q := (hf it (by simp)).1
      rw [← z, hu] at q
      cases q
    obtain ⟨f0, f1, f2, f3, f4, f5⟩ := hf it (by simp)
    have hn : i = its.toArray.size := by rw [List.size_toArray, el, hi]
    rw [hn] at hit
    exact wpAny_pyNext_enum_endD (draws isT (by simp [I.ok.hd hc]) it a ia its.toArray) he ⟨hit, co⟩ fun h' eb => ⟨rfl, I.turned (t' := s.toks) (fun b o hb q => eb b o hb q) f0 f1 f3 f4 f5⟩
  self := fun A i s Q E st h => let ⟨⟨_, he⟩, _⟩ := st; wpAny_pyIter_enum he h
def iEnAt (ta : TA) : TI := fun σ H R => ta σ H fun vs H1 => ∃ (b : Bool) (a : Addr) (xs : List V) (k : Int), vs = [.ref a, .int k] ∧ Is b H1 a xs ∧ -(2 ^ 62) ≤ k ∧ k < 2 ^ 62 ∧ R (ItenB b k a xs) H1
theorem pi_enumAt {X : Cx} {e e2 : Expr} {ta : TA} {p pos tpos : Pos} {elts : List Expr} {kk : Nat} (hg : Gl X "enumerate") (hm : X.mg "enumerate" = none) (ha : PA X [e, e2] ta) (hs : starEach [e, e2] X.env = (false, eval e X.env) :: starEach [e2] X.env := by rfl) (hp : (backTo pos (starEach [e2] X.env)).any (·.1) = false := by rfl) :
    PI X (.Tuple elts kk tpos) (.Call (.Name "enumerate" p) [e, e2] [] pos) (iEnAt ta) := by
  refine ⟨fun pins s σ H R I h => ?_⟩
  refine Call_ (ld_blt I hg hm boot_enumerate (PyProof.Rows.callWith_type1 (thn (ha.run pos pins s σ H _ I h) fun us s1 ⟨vs, H1, I1, r1, q1⟩ => ?_) hs hp))
  obtain ⟨b, a, xs, k, ex, hq, k0, k1, q⟩ := q1
  subst ex
  cases r1 with
  | cons r rr =>
    cases rr with
    | cons r2 r3 =>
      cases r3
      cases r
      obtain ⟨tk, rfl⟩ := r2
      obtain ⟨its, rv, co⟩ := is_co I1 hq
      have fin : ∀ h', IsEnum h' (s1.heap.objs.size + 1) s1.heap.objs.size k .none → ItAt b h' s1.heap.objs.size a 0 → (∀ c o, s1.heap.get? c = some o → h'.get? c = some o) → wpAny (model X.prog X.w) X.A (pyIter (.ref (s1.heap.objs.size + 1))) (PIE X pins σ (.Tuple elts kk tpos) R) X.xe { s1 with heap := h' } := fun h' he hit hk => by
        refine wpAny_pyIter_enum he ?_
        have I2 : Inv X pins σ H1 { s1 with heap := h' } := I1.kept (t' := s1.toks) hk
        refine ⟨s1.heap.objs.size + 1, [s1.heap.objs.size + 1, s1.heap.objs.size], _, _, H1, rfl, I2, turn_en b k a (s1.heap.objs.size + 1) s1.heap.objs.size xs, ⟨⟨.none, by rw [show k + ((0 : Nat) : Int) = k by omega]; exact he⟩, hit, Nat.succ_ne_self _⟩, fun c hc => ?_, q⟩
        have le : s1.heap.objs.size ≤ c := by
          rcases (by simpa using hc : c = s1.heap.objs.size + 1 ∨ c = s1.heap.objs.size) with z | z
          · rw [z]; exact Nat.le_add_right _ _
          · rw [z]; exact Nat.le_refl _
        exact I1.fpOk le (I1.hok.fresh le)
      cases b with
      | true => exact enum_begins (begins_tuple a its.toArray) co (by omega) (by omega) fun h' he ho hz hk => fin h' he ⟨_, ho, rfl, rfl⟩ hk
      | false => exact enum_begins (begins_list a its.toArray) co (by omega) (by omega) fun h' he ho hz hk => fin h' he ⟨_, ho, rfl, rfl⟩ hk
end En
namespace Dw
open PySem PySem.Spec PyProof.Rows L2 Tg LamX En
def enums (k : Int) (xs : List PyData) : List PyData := (List.range xs.length).map fun i => PyData.tuple [.int (k + (i : Nat)), xs.getD i .none]
/-- enumerate(xs, k) -/
def IEnAt (TA : TDA) : TDI := fun ρ K => TA ρ fun ds ρ1 => match ds with
  | [.list xs, .int k] => (-(2 ^ 62) ≤ k ∧ k < 2 ^ 62) ∧ K (enums k xs) ρ1
  | [.tuple xs, .int k] => (-(2 ^ 62) ≤ k ∧ k < 2 ^ 62) ∧ K (enums k xs) ρ1
  | _ => False
theorem enums_len (k : Int) (xs : List PyData) : (enums k xs).length = xs.length := by simp [enums]
theorem enums_get {k : Int} {xs : List PyData} {i : Nat} {x : PyData} (h : xs[i]? = some x) : (enums k xs)[i]? = some (.tuple [.int (k + (i : Nat)), x]) := by
  have hi := (List.getElem?_eq_some_iff.mp h).1
  unfold enums
  rw [List.getElem?_map, List.getElem?_range hi]
  simp [h]
theorem is_keep {b : Bool} {H H' : Hp} {a : Addr} {vs : List V} (k : Kp H H') (h : Is b H a vs) : Is b H' a vs := by
  cases b with
  | true => exact k.tu _ _ h
  | false =>
    obtain ⟨o, h⟩ := (show ∃ o, H a = some (.frz o (.lst vs)) from h)
    exact ⟨o, k.fz _ _ _ h⟩
theorem walkD_en {H : Hp} {b : Bool} {k : Int} {a : Addr} {vs : List V} {xs : List PyData} (h : Is b H a vs) (r : RpL H xs vs) : WalkD H (ItenB b k a vs) (enums k xs) := by
  have el := rpL_len r
  refine ⟨fun H' => Is b H' a vs, fun i H1 v H2 => ∃ T x, v = .ref T ∧ H1 T = none ∧ H2 = upd H1 T (.tup [.int (k + (i : Nat)), x]) ∧ vs[i]? = some x, ⟨fun i H1 hi q => ⟨q, ?_⟩, fun H1 q => ⟨q, ?_⟩, fun i H1 x H2 hi q y => y⟩, fun H1 kp => is_keep kp h, ?_⟩
  · rw [enums_len] at hi; omega
  · rw [enums_len]; omega
  rintro i H1 v H2 hi kp ⟨T, x, rfl, nT, rfl, hx⟩
  obtain ⟨d, h1, h2⟩ := rpL_get r hx
  exact ⟨same_new nT, _, enums_get h1, Rp.tup upd_same (RpL.cons Rp.int (RpL.cons ((h2.keep kp).same (same_new nT)) RpL.nil))⟩
section
variable {C : DC}
instance iiEnAt {ta : TA} {TA : TDA} [r : RefA C ta TA] : RefI C (iEnAt ta) (IEnAt TA) := ⟨fun {σ H R ρ K} I h k =>
  r.go I h fun ds ρ1 ws H1 q1 k1 I1 r1 => by
    unfold IEnAt at *
    split at q1
    · rename_i xs n
      obtain ⟨u, v, rfl, r2, r3⟩ := rpL2 r1
      obtain ⟨a, o, vs, rfl, ha, rl⟩ := rp_list r2
      cases rp_int r3
      exact ⟨false, a, vs, n, rfl, ⟨o, ha⟩, q1.1.1, q1.1.2, k _ _ _ _ q1.2 k1 I1 (walkD_en (b := false) ⟨o, ha⟩ rl)⟩
    · rename_i xs n
      obtain ⟨u, v, rfl, r2, r3⟩ := rpL2 r1
      obtain ⟨a, vs, rfl, ha, rl⟩ := rp_tup r2
      cases rp_int r3
      exact ⟨true, a, vs, n, rfl, ha, q1.1.1, q1.1.2, k _ _ _ _ q1.2 k1 I1 (walkD_en (b := true) ha rl)⟩
    · exact q1.elim⟩
end
end Dw
end
section
set_option Elab.async false
set_option linter.all false
set_option maxRecDepth 100000
set_option maxHeartbeats 4000000
/-! Tg, part Zq: Dw: walks over dicts, enumerate, zip; f(*xs); a, *b = xs. -/
namespace Dw
open PySem PySem.Spec PyProof.Rows L2 Tg LamX En
section
variable {C : DC} {Kf : PySem.W.Frag}
/-- for x in d -/
def IKeys (T : TD) : TDI := fun ρ K => T ρ fun d ρ1 => isM d fun kvs => K (kvs.map fun p => .str p.1) ρ1
instance iiKeys {t : TE} {T : TD} [r : Ref C t T] : RefI C (iKeys t) (IKeys T) := ⟨fun {σ H R ρ K} I h k =>
  r.go I h fun d ρ1 w H1 q1 k1 I1 r1 => by
    obtain ⟨kvs, rfl, q2⟩ := q1
    obtain ⟨a, o, ks, rfl, ha, pr⟩ := rp_dict r1
    have ek := pair_keys pr
    refine ⟨a, o, rfl, .inl ⟨ks, ha, k _ _ _ _ q2 k1 I1 ⟨_, _, by rw [List.length_map, Paired.length pr]; exact walk_keys, fun H2 kk => kk.fz _ _ _ ha, ?_⟩⟩⟩
    rintro i H2 x H3 hi kk ⟨rfl, ky, v, hkv, rfl⟩
    have e1 : (ks.map (·.1))[i]? = some ky := by rw [List.getElem?_map, hkv]; rfl
    rw [ek, List.getElem?_map, List.getElem?_map] at e1
    cases q : kvs[i]? with
    | none => rw [q] at e1; cases e1
    | some p =>
      rw [q] at e1
      cases e1
      exact ⟨fun _ _ e => e, .str p.1, by simp [q], Rp.str⟩⟩
/-- enumerate(xs) -/
def IEnum (TA : TDA) : TDI := fun ρ K => TA ρ fun ds ρ1 => match ds with
  | [.list xs] => K (enums 0 xs) ρ1
  | _ => False
instance iiEnum {ta : TA} {TA : TDA} [r : RefA C ta TA] : RefI C (iEnum Kf ta) (IEnum TA) := ⟨fun {σ H R ρ K} I h k =>
  r.go I h fun ds ρ1 ws H1 q1 k1 I1 r1 => by
    unfold IEnum at *
    split at q1
    · rename_i xs
      obtain ⟨u, rfl, r2⟩ := rpL1 r1
      obtain ⟨a, o, vs, rfl, ha, rl⟩ := rp_list r2
      refine ⟨a, vs, rfl, .inl (.inr ⟨o, ha⟩), k _ _ _ _ q1 k1 I1 ⟨fun H2 => SqL Kf H2 a vs, _, by rw [enums_len, rpL_len rl]; exact walk_enum, fun H2 kk => .inl (.inr ⟨o, kk.fz _ _ _ ha⟩), ?_⟩⟩
      rintro i H2 x H3 hi kk ⟨T', x', y', rfl, nT, rfl, hx, hy⟩
      cases hx
      obtain ⟨d, h1, h2⟩ := rpL_get rl hy
      refine ⟨same_new nT, _, enums_get h1, Rp.tup upd_same (RpL.cons ?_ (RpL.cons ((h2.keep kk).same (same_new nT)) RpL.nil))⟩
      rw [show (0 : Int) + (i : Nat) = (i : Nat) by omega]
      exact Rp.int
    · exact q1.elim⟩
/-- zip(xs, ys) -/
def zipsD (xs ys : List PyData) : List PyData := (xs.zip ys).map fun p => .tuple [p.1, p.2]
def IZip (TA : TDA) : TDI := fun ρ K => TA ρ fun ds ρ1 => match ds with
  | [.list xs, .list ys] => K (zipsD xs ys) ρ1
  | _ => False
instance iiZip {ta : TA} {TA : TDA} [r : RefA C ta TA] : RefI C (iZip Kf ta) (IZip TA) := ⟨fun {σ H R ρ K} I h k =>
  r.go I h fun ds ρ1 ws H1 q1 k1 I1 r1 => by
    unfold IZip at *
    split at q1
    · rename_i xs ys
      obtain ⟨u, u2, rfl, r2, r3⟩ := rpL2 r1
      obtain ⟨a, o, vs, rfl, ha, rl⟩ := rp_list r2
      obtain ⟨b, o2, vs2, rfl, hb, rl2⟩ := rp_list r3
      refine ⟨a, b, vs, vs2, rfl, .inl (.inr ⟨o, ha⟩), .inl (.inr ⟨o2, hb⟩), k _ _ _ _ q1 k1 I1 ⟨fun H2 => SqL Kf H2 a vs ∧ SqL Kf H2 b vs2, _, walk_zip (by simp [zipsD, rpL_len rl, rpL_len rl2]), fun H2 kk => ⟨.inl (.inr ⟨o, kk.fz _ _ _ ha⟩), .inl (.inr ⟨o2, kk.fz _ _ _ hb⟩)⟩, ?_⟩⟩
      rintro i H2 x H3 hi kk ⟨T', x', y', rfl, nT, rfl, hx, hy⟩
      obtain ⟨d, h1, h2⟩ := rpL_get rl hx
      obtain ⟨e, h3, h4⟩ := rpL_get rl2 hy
      exact ⟨same_new nT, .tuple [d, e], by simp [zipsD, List.getElem?_zip_eq_some, h1, h3], Rp.tup upd_same (RpL.cons ((h2.keep kk).same (same_new nT)) (RpL.cons ((h4.keep kk).same (same_new nT)) RpL.nil))⟩
    · exact q1.elim⟩
end
/-! ### x.startswith(y) -/
def MStarts1 : PyData → DL := fun x ds K => isS x fun a => on1 ds fun d => isS d fun b => K (.bool (Txt.startswith a b))
section
variable {X : Cx}
theorem mStarts1 : MtR X "str.startswith" (mD MStarts1) := MtR.of mt_startswith fun x xs H Q q => by
  obtain ⟨d, ds, K, r, rl, q, k⟩ := q
  obtain ⟨a, rfl, q1⟩ := isS_go q
  obtain ⟨e, rfl, q2⟩ := on1_go q1
  obtain ⟨b, rfl, q3⟩ := isS_go q2
  obtain ⟨y, rfl, r1⟩ := rpL1 rl
  cases rp_str r
  cases rp_str r1
  exact ⟨a, b, rfl, rfl, k _ _ _ q3 (fun _ _ e => e) Rp.bl⟩
/-! ### f(*xs) -/
def tStarC (K : PySem.W.Frag) (sp : Sp) (E : XK) (te : TE) : TE := fun σ H Q => te σ H fun y H1 => ∃ a xs, y = V.ref a ∧ (SqT K H1 a xs ∨ SqL K H1 a xs) ∧ sp xs H1 Q E
theorem pe_starC {CX : CXT} {k : Nat} {f : Addr} {fd : FuncData} {ps : List Str} {sp : Sp} {E : XK} {x : Str} {p sp_ pos : Pos} {e : Expr} {te : TE} (F : FnOk X.prog X.w X.K X.mg X.base CX k f fd ps sp) (room : Room k X.A) (gl : Gl X x) (hm : X.mg x = some (.ref f)) (kp : PySem.W.keepIn X.K (.ref f) = true)
    (hb : Binds X.K fd ps []) (hx : Passes CX X E) (he : PE X e te) (hd : (x == ("__debug__" : Str)) = false := by decide) (hst : starEach [.Starred e sp_] X.env = [(true, eval e X.env)] := by rfl) :
    PE X (.Call (.Name x p) [.Starred e sp_] [] pos) (tStarC X.K sp E te) := by
  constructor
  intro pins s σ H Q I h
  apply wpAny_Call_Name_kw
  apply ld_glob I gl hm _ hd
  apply PySem.W.callWith_S (h₀ := X.base) I.ok.mod.kin kp _ hst
  refine thn (he.run pins s σ H _ I h) ?_
  rintro v s1 ⟨y, H1, I1, ry, a, xs, rfl, hxs, q⟩
  cases ry
  refine StX.star_any I1 hxs fun us s2 I2 rv => ⟨I2.kIn, wpAny_call ?_⟩
  have hl : us.length = ps.length := rv.length.symm.trans (F.len _ _ _ _ q)
  have bd := hb s2 us I2.kIn (by rw [List.append_nil]; exact hl)
  rw [List.append_nil] at bd
  refine codeAny_mono (F.run X.A X.stack s2 H1 ⟨us, []⟩ us xs Q E room I2.env0 bd rv q) ?_
  intro r z hq
  match r, hq with
  | .error er, hq => exact hx pins σ H1 s2 er z I2 hq
  | .ok (.ret u), hq => exact I2.after hq
  | .ok .next, hq => exact False.elim hq
  | .ok .brk, hq => exact False.elim hq
  | .ok .cont, hq => exact False.elim hq
end
def DStarC (F : DF) (T : TD) : TD := fun ρ K => T ρ fun d ρ1 => match d with
  | .list xs => F xs fun z => K z ρ1
  | .tuple xs => F xs fun z => K z ρ1
  | _ => False
section
variable {C : DC} {Kf : PySem.W.Frag}
instance iStarC {F : DF} {E : XK} {t : TE} {T : TD} [r : Ref C t T] : Ref C (tStarC Kf (spD F) E t) (DStarC F T) := ⟨fun {σ H Q ρ K} I h k =>
  r.go I h fun d ρ1 w H1 q1 k1 I1 r1 => by
    unfold DStarC at *
    split at q1
    · rename_i xs
      obtain ⟨a, o, vs, rfl, ha, rl⟩ := rp_list r1
      exact ⟨a, vs, rfl, .inr (.inl (.inr ⟨o, ha⟩)), xs, _, rl, q1, fun d w H2 q2 s2 r2 => k _ _ _ _ q2 (k1.trans (Kp.same s2)) (I1.same s2) r2⟩
    · rename_i xs
      obtain ⟨a, vs, rfl, ha, rl⟩ := rp_tup r1
      exact ⟨a, vs, rfl, .inl (SqT.of ha), xs, _, rl, q1, fun d w H2 q2 s2 r2 => k _ _ _ _ q2 (k1.trans (Kp.same s2)) (I1.same s2) r2⟩
    · exact q1.elim⟩
end
end Dw
end
section
set_option Elab.async false
set_option linter.all false
set_option maxRecDepth 100000
set_option maxHeartbeats 4000000
/-! Tg, part Zr: a, *b = xs; own lists extended; tuple(d); xs * n. -/
namespace Sr
open PySem PySem.Spec PyProof.Rows L2
theorem shiftS {P : Program} {w : World} {A : Around} {I : Addr} {fp wr : List Addr} {G : Array GenState → Array GenState → Prop} {n k : Nat} {Pv : Nat → Value → Prop} {St : Nat → Shared → Prop} (W : WalksS P w A I fp wr G (n + k) Pv St) :
    WalksS P w A I fp wr G n (fun i => Pv (i + k)) (fun i => St (i + k)) where
  sub := W.sub
  grefl := W.grefl
  gtrans := W.gtrans
  frame := fun i => W.frame (i + k)
  item := fun i s Q E hi st hQ => W.item (i + k) s Q E (by omega) st fun v s' p st' m => hQ v s' p (by rw [show i + 1 + k = i + k + 1 by omega]; exact st') m
  done := fun s Q E st hQ => W.done s Q E st hQ
  self := fun i => W.self (i + k)
section
variable {P : Program} {w : World} {A : Around} {E : Value → Shared → Prop} {s : Shared}
theorem star_items {l : Addr} {x : Value} {xs : List Value} {Q : List Value → Shared → Prop} (hh : A.handled = none) (hl : s.heap.IsList l (x :: xs).toArray) (hz : xs.length ≤ sizeLine)
    (hQ : ∀ (z : Heap) (tk : Nat), (∀ b o, s.heap.get? b = some o → z.get? b = some o) → Q [x, .ref z.objs.size] { s with heap := z.push { cls := .type "list", data := .seq xs.toArray }, toks := tk }) :
    wpAny (model P w) A (unpackItems (.ref l) 2 (some 1)) Q E s := by
  have lt : l < s.heap.objs.size := by obtain ⟨o, ho, _⟩ := hl; exact Heap.lt_size ho
  have ne : l ≠ s.heap.objs.size := Nat.ne_of_lt lt
  unfold unpackItems
  refine wpAny_bind ?_
  unfold notIterableAtAll
  refine wpAny_bind (wpAny_specialOf hl.typeIs slot_list_iter.lookup ?_)
  refine wpAny_pure ?_
  simp only [Bool.false_eq_true, if_false]
  refine wpAny_bind (wpAny_holding (wpAny_pyIter_list hl ?_))
  have it0 : (s.heap.push { cls := .type "list_iterator", data := .fields #[.ref l, .int 0 0] }).IsListIter s.heap.objs.size l 0 := ⟨_, Heap.get?_push_size _ rfl, rfl, rfl⟩
  have l0 : (s.heap.push { cls := .type "list_iterator", data := .fields #[.ref l, .int 0 0] }).IsList l (x :: xs).toArray := hl.push _
  refine wpAny_bind (wpAny_holding ?_)
  unfold draw
  refine wpAny_bind (wpAny_pyNext_list_item it0 l0 (x := x) (by simp) fun h1 it1 sb1 => ?_)
  dsimp only
  refine wpAny_bind (wpAny_holding ?_)
  unfold draw
  refine wpAny_pure (wpAny_pure ?_)
  simp only [List.length_cons, List.length_nil, Nat.lt_irrefl, if_false, show ¬ (0 + 1 < 1) by omega]
  have l1 : h1.IsList l (x :: xs).toArray := l0.extBut sb1.extBut ne
  have W := shiftS (n := xs.length) (k := 1) (by
    have := (Walks.list (prog := P) (w := w) (A := A.in1) (by simp [hh]) s.heap.objs.size l ne (x :: xs).toArray).toS
    simpa using this)
  refine wpAny_bind (wpAny_holding (wpAny_collect_iter (T := "list_iterator") (.inr (.inr (.inl rfl))) W (fun i z st => ⟨_, st.1.choose_spec.1, st.1.choose_spec.2.1⟩) ⟨it1, l1⟩ (fun b hb => ?_) (by simp) (fun z acc mv ac => ?_) hz))
  · have sz : h1.objs.size = s.heap.objs.size + 1 := by rw [sb1.1, Heap.size_push]
    show b < h1.objs.size
    rw [sz]
    rcases (by simpa using hb : b = s.heap.objs.size ∨ b = l) with e | e
    · rw [e]; exact Nat.lt_succ_self _
    · rw [e]; exact Nat.lt_succ_of_lt lt
  · have eq : acc.toList = xs := by
      apply List.ext_getElem?
      intro j
      by_cases hj : j < xs.length
      · have hj2 : j < acc.size := by rw [ac.1]; exact hj
        have := ac.2 j acc[j] (Array.getElem?_eq_getElem hj2)
        have e2 : (x :: xs)[j + 1]? = some acc[j] := this
        simp only [List.getElem?_cons_succ] at e2
        rw [e2, Array.getElem?_toList, Array.getElem?_eq_getElem hj2]
      · rw [List.getElem?_eq_none (by rw [Array.length_toList, ac.1]; omega), List.getElem?_eq_none (by omega)]
    rw [eq]
    simp only [show ¬ (xs.length < 2 - 1 - 1) by omega, if_false, show xs.length - (2 - 1 - 1) = xs.length by omega, List.take_length, List.drop_length]
    refine wpAny_bind (wpAny_newList ?_ hz)
    refine wpAny_pure ?_
    obtain ⟨zh, zg, zd, zt, zo⟩ := z
    have eg : zg = s.gens := mv.gens
    have ed : zd = s.drawn := mv.drawn
    have eo : zo = s.os := mv.os
    subst eg ed eo
    have old : ∀ b o, s.heap.get? b = some o → zh.get? b = some o := fun b o e => by
      have nb : b ≠ s.heap.objs.size := Nat.ne_of_lt (Heap.lt_size e)
      exact mv.heap b o (by simp [nb]) (sb1.extBut b o nb (Heap.get?_push_of_some _ e))
    exact hQ zh zt old
end
section
variable {X : Cx}
/-- a, *b = xs -/
def gStar (K : PySem.W.Frag) (t : TGs) : TG := fun v σ H Q => ∃ a x xs, v = .ref a ∧ SqL K H a (x :: xs) ∧ ∀ p, H p = none → t [x, .ref p] σ (upd H p (.lst xs)) Q
theorem pg_star {ea eb : Expr} {t : TGs} {k : Nat} {ps pos : Pos} (hc : X.calm = true) (h : PGs X [ea, eb] t)
    (he : assignEach [ea, .Starred eb ps] X.env = [(false, assign ea X.env), (true, assign eb X.env)] := by rfl) (hp : (assignEach [ea, eb] X.env).map (·.2) = [assign ea X.env, assign eb X.env] := by rfl) :
    PG X (.Tuple [ea, .Starred eb ps] k pos) (gStar X.K t) := by
  constructor
  rintro pins s σ H v u Q I r ⟨a, x, xs, rfl, hq, hw⟩
  cases r
  obtain ⟨its, rv, pl, hz⟩ := I.list hq
  rw [PyProof.Rows.assign_Tuple]
  refine wpAny_bind (wpAny_standAt ?_)
  unfold unpack
  rw [he]
  refine wpAny_bind (wpAny_holding ?_)
  cases rv with
  | cons r0 rr =>
    rename_i u0 us
    show wpAny _ _ (unpackItems (.ref a) 2 (some 1)) _ _ _
    have lx := rr.length
    rw [List.length_cons] at hz
    refine star_items (I.ok.hd hc) pl.isList (by rw [← lx]; omega) fun z tk old => ?_
    have I1 : Inv X pins σ H { s with heap := z, toks := tk } := I.kept old
    have hn : H z.objs.size = none := I1.hok.fresh (Nat.le_refl _)
    have I2 : Inv X pins σ (upd H z.objs.size (.lst xs)) { s with heap := z.push { cls := .type "list", data := .seq us.toArray }, toks := tk } :=
      I1.laid (t' := tk) (fun b o e => Heap.get?_push_of_some _ e) (Nat.le_refl _) ⟨by omega, us, 0, rr, Heap.get?_push_size _ rfl⟩
    have q := h.run pins _ σ _ [x, .ref z.objs.size] [u0, .ref z.objs.size] Q I2 (.cons r0 (.cons rfl .nil)) (hw _ hn)
    rw [hp] at q
    exact q
end
end Sr
namespace Dw
open PySem PySem.Spec PyProof.Rows L2 Tg LamX Sr
/-- i, *j = e: j is one's own -/
def DStarS (i j : Nat) (T : TD) : TDS := fun DD ρ => i ≠ j ∧ T ρ fun d ρ1 => match d with
  | .list (x :: xs) => DD.nx ((ρ1.set i (some (.d x))).set j (some (.l xs)))
  | _ => False
section
variable {C : DC} {Kf : PySem.W.Frag}
instance iStarS {i j : Nat} {t : TE} {T : TD} [r : Ref C t T] : RefS C (tAsg t (gStar Kf (gCons (gName i) (gCons (gName j) gNil)))) (DStarS i j T) := ⟨fun {D σ H ρ DD} I h n rt bk ct => by
  obtain ⟨ne, h⟩ := h
  refine r.go I h fun d ρ1 w H1 q1 k1 I1 r1 => ?_
  split at q1
  · rename_i x xs
    obtain ⟨a, o, vs, rfl, ha, rl⟩ := rp_list r1
    simp only [RpL] at rl
    obtain ⟨v, vr, rfl, rv, rr⟩ := rl
    refine ⟨a, v, vr, rfl, .inl (.inr ⟨o, ha⟩), fun p np => ?_⟩
    obtain ⟨I2, k2, N2⟩ := I1.newL (xs := xs) ⟨vr, np, rfl, rr⟩
    refine ⟨v, [.ref p], rfl, .ref p, [], rfl, rfl, ?_⟩
    refine n _ _ _ q1 (k1.trans k2) ?_
    have I3 := I2.setD (i := i) (rv.keep k2)
    refine I3.set N2.dv fun _ l y nl e m => ?_
    rcases get_set e with ⟨rfl, e2, hl⟩ | ⟨ne2, e2⟩
    · cases e2
      cases m
    · rw [List.getElem?_set_ne (Ne.symm ne2)]
      exact N2.ap l y e2 m
  · exact q1.elim⟩
end
end Dw
end
section
set_option Elab.async false
set_option linter.all false
set_option maxRecDepth 100000
set_option maxHeartbeats 4000000
/-! Tg, part Zs: small things for comprehensions and tests. -/
namespace Dw
open PySem PySem.Spec PyProof.Rows L2 Tg LamX
/-- as pe_lk, of a comparison as a test -/
theorem pt_lk {X : Cx} {e : Expr} {t : TE} (i : Nat) (h : PT X e (tTest t)) : PT X e (tTest (tLk i t)) := by
  refine ⟨fun pins s σ H Q I hw => ?_⟩
  obtain ⟨d, u, hd, mu, hw⟩ := hw
  obtain ⟨od, I1⟩ := I.lock hd mu
  have hw := hw od
  have e1 : (fun (v : V) (H' : Hp) => H' d = some (.frz od u) ∧ ∃ k, v = .bl k ∧ Q k (upd H' d u)) = fun v H' => ∃ k, v = .bl k ∧ (H' d = some (.frz od u) ∧ Q k (upd H' d u)) := by
    funext v H'
    apply propext
    constructor
    · rintro ⟨a, k, b, c⟩
      exact ⟨k, b, a, c⟩
    · rintro ⟨k, b, a, c⟩
      exact ⟨a, k, b, c⟩
  rw [e1] at hw
  refine thn (h.run pins s σ _ (fun k H' => H' d = some (.frz od u) ∧ Q k (upd H' d u)) I1 hw) fun v s1 ⟨H1, I2, e2, q⟩ => ?_
  exact ⟨_, I2.unlock e2 (I.nofrz hd mu), q⟩
/-- a method's reading within a comprehension: the fragment told -/
theorem pe_bmK {X : Cx} {K : PySem.W.Frag} {T : String} {r : V → List V → Hp → VK → Prop} {to : TE} {t : TA} {e : Expr} (hK : X.K = K) (h : PE X e (tBM X.K T r to t)) : PE X e (tBM K T r to t) := hK ▸ h
/-- x.name(..) of a text, named (a lambda is not found below the binder of a comprehension's classes) -/
def isStr (T : TD) : TD := fun ρ K => T ρ fun d ρ' => (∃ x, d = .str x) ∧ K d ρ'
section
variable {C : DC}
instance (priority := high) iMtS' {Kf : PySem.W.Frag} {R : PyData → DL} {t : TE} {T : TD} {ta : TA} {TA : TDA} [r : Ref C t T] [ra : RefA C ta TA] : Ref C (tBM Kf "str" (mD R) t ta) (DMt R (isStr T) TA) := ⟨(iMtS (C := C) (Kf := Kf) (R := R) (t := t) (T := T) (ta := ta) (TA := TA)).go⟩
instance (priority := high) iMtSN' {Kf : PySem.W.Frag} {R : PyData → LL} {t : TE} {T : TD} {ta : TA} {TA : TDA} [r : Ref C t T] [ra : RefA C ta TA] : RefN C (tBM Kf "str" (mN R) t ta) (DMtN R (isStr T) TA) := ⟨(iMtSN (C := C) (Kf := Kf) (R := R) (t := t) (T := T) (ta := ta) (TA := TA)).go⟩
end
/-! ### for x in e, e a list or a tuple -/
def iSq2 (K : PySem.W.Frag) (tl : TE) : TI := fun σ H R => tl σ H fun x H1 => ∃ a, x = .ref a ∧ (((∃ xs, SqL K H1 a xs) ∧ R (Itl K a) H1) ∨ ((∃ xs, SqT K H1 a xs) ∧ R (Itt K a) H1))
theorem pi_seq {X : Cx} {tg l : Expr} {tl : TE} (hl : PE X l tl) : PI X tg l (iSq2 X.K tl) := by
  refine ⟨fun pins s σ H R I h => ?_⟩
  refine thn (hl.run pins s σ H _ I h) fun v s1 ⟨x, H1, I1, r1, q1⟩ => ?_
  obtain ⟨a, e, ⟨⟨xs, hq⟩, q⟩ | ⟨⟨xs, hq⟩, q⟩⟩ := q1
  · subst e
    cases r1
    obtain ⟨its, rv, p, hz⟩ := I1.list hq
    refine wpAny_pyIter_list p.isList ?_
    refine ⟨s1.heap.objs.size, [s1.heap.objs.size], _, _, H1, rfl, I1.kept (t' := s1.toks) fun b o e => Heap.get?_push_of_some _ e, turn_list a _, ⟨_, Heap.get?_push_size _ rfl, rfl, rfl⟩, fun b hb => ?_, q⟩
    have e : b = s1.heap.objs.size := by simpa using hb
    subst e
    exact I1.fpOk (Nat.le_refl _) (I1.hok.fresh (Nat.le_refl _))
  · subst e
    cases r1
    obtain ⟨its, rv, p, hz⟩ := I1.tuple hq
    refine wpAny_pyIter_tuple (show s1.heap.IsTuple a its.toArray from p) ?_
    refine ⟨s1.heap.objs.size, [s1.heap.objs.size], _, _, H1, rfl, I1.kept (t' := s1.toks) fun b o e => Heap.get?_push_of_some _ e, turn_tuple a _, ⟨_, Heap.get?_push_size _ rfl, rfl, rfl⟩, fun b hb => ?_, q⟩
    have e : b = s1.heap.objs.size := by simpa using hb
    subst e
    exact I1.fpOk (Nat.le_refl _) (I1.hok.fresh (Nat.le_refl _))
theorem pi_tupK {X : Cx} {K : PySem.W.Frag} {tg l : Expr} {tl : TE} (hK : X.K = K) (hl : PE X l tl) : PI X tg l (L2.iTup K tl) := hK ▸ pi_tup hl
theorem pi_listK {X : Cx} {K : PySem.W.Frag} {tg l : Expr} {tl : TE} (hK : X.K = K) (hl : PE X l tl) : PI X tg l (iList K tl) := hK ▸ pi_list hl
def ISeq (T : TD) : TDI := fun ρ K => T ρ fun d ρ1 => match d with
  | .list xs => K xs ρ1
  | .tuple xs => K xs ρ1
  | _ => False
section
variable {C : DC} {Kf : PySem.W.Frag}
instance iiSeq {t : TE} {T : TD} [r : Ref C t T] : RefI C (iSq2 Kf t) (ISeq T) := ⟨fun {σ H R ρ K} I h k =>
  r.go I h fun d ρ1 w H1 q1 k1 I1 r1 => by
    unfold ISeq at *
    split at q1
    · rename_i xs
      obtain ⟨a, o, vs, rfl, ha, rl⟩ := rp_list r1
      exact ⟨a, rfl, .inl ⟨⟨vs, .inl (.inr ⟨o, ha⟩)⟩, k _ _ _ _ q1 k1 I1 (walkD_list ha rl)⟩⟩
    · rename_i xs
      obtain ⟨a, vs, rfl, ha, rl⟩ := rp_tup r1
      exact ⟨a, rfl, .inr ⟨⟨vs, SqT.of ha⟩, k _ _ _ _ q1 k1 I1 (walkD_tup ha rl)⟩⟩
    · exact q1.elim⟩
end
end Dw
end
section
set_option Elab.async false
set_option linter.all false
set_option maxRecDepth 100000
set_option maxHeartbeats 4000000
/-! Tg, part Zt: Dw: tuples + tuples, tuples' slices, sum, xs * n, join of a tuple, a, b = data, new. -/
namespace Dw
open PySem PySem.Spec PyProof.Rows L2 Tg LamX
/-- t + u -/
def RCatT : D2 := fun d e K => isT d fun xs => isT e fun ys => xs.length + ys.length ≤ 16777216 ∧ K (.tuple (xs ++ ys))
/-- t[lo:hi] -/
def RSlT : PyData → Option Int → Option Int → (PyData → Prop) → Prop := fun d lo hi K => isT d fun xs => K (.tuple (cutD xs lo hi))
def RSum : DL := fun ds K => on1 ds fun d => isL d fun xs => ∃ ns : List Int, xs = ns.map .int ∧ K (.int ns.sum)
/-- sep.join of a list, a tuple -/
def MJoin2 : PyData → DL := fun x ds K => isS x fun a => on1 ds fun d => match d with
  | .list xs => ∃ ys : List Str, xs = ys.map .str ∧ (ys.map (·.length)).sum + ys.length * a.length ≤ 16777216 ∧ K (.str (Txt.join a ys))
  | .tuple xs => ∃ ys : List Str, xs = ys.map .str ∧ (ys.map (·.length)).sum + ys.length * a.length ≤ 16777216 ∧ K (.str (Txt.join a ys))
  | _ => False
def NRep : LL2 := fun d e K => isL d fun xs => isI e fun k => 0 ≤ k ∧ k ≤ 1000 ∧ xs.length ≤ 1000 ∧ K (List.replicate k.toNat xs).flatten
theorem rpL_ints {H : Hp} : ∀ {ns : List Int} {vs : List V}, RpL H (ns.map .int) vs → vs = ns.map V.int
  | [], vs, r => by simpa only [List.map_nil, RpL] using r
  | n :: ns, vs, r => by
    simp only [List.map_cons, RpL] at r
    obtain ⟨x, r', rfl, h1, h2⟩ := r
    rw [rpL_ints h2, rp_int h1]
    rfl
section
variable {X : Cx}
theorem dCatT : OpR X (binaryOp .Add) (rD RCatT) := OpR.of op_catA fun x y H Q q => by
  obtain ⟨d, e, K, r1, r2, q, k⟩ := q
  obtain ⟨xs, rfl, q1⟩ := isT_go q
  obtain ⟨ys, rfl, hz, q2⟩ := isT_go q1
  obtain ⟨a, vs, rfl, ha, rl⟩ := rp_tup r1
  obtain ⟨b, vs', rfl, hb, rl'⟩ := rp_tup r2
  refine ⟨a, b, vs, vs', rfl, rfl, SqT.of ha, SqT.of hb, by rw [sizeLine_eq, ← rpL_len rl, ← rpL_len rl']; exact hz, fun e => ?_, fun _ e => ?_, fun _ _ p np => ?_⟩
  · subst e
    have : xs = [] := List.length_eq_zero_iff.mp (rpL_len rl)
    subst this
    exact k _ _ _ q2 (fun _ _ e => e) (Rp.tup hb rl')
  · subst e
    have : ys = [] := List.length_eq_zero_iff.mp (rpL_len rl')
    subst this
    rw [List.append_nil] at q2
    exact k _ _ _ q2 (fun _ _ e => e) (Rp.tup ha rl)
  · refine k _ _ _ q2 (same_new np) (Rp.tup upd_same ?_)
    exact rpL_append (RpL.keep (Kp.same (same_new np)) _ _ rl) (RpL.keep (Kp.same (same_new np)) _ _ rl')
theorem dSlT : SlR X (sD RSlT) := SlR.of sl_tupA fun x lo hi H Q q => by
  obtain ⟨d, K, r1, q, k⟩ := q
  obtain ⟨xs, rfl, q1⟩ := isT_go q
  obtain ⟨a, vs, rfl, ha, rl⟩ := rp_tup r1
  have hl := rpL_len rl
  refine ⟨a, vs, rfl, SqT.of ha, fun e => ?_, fun _ p np => ?_⟩
  · refine k _ _ _ q1 (fun _ _ e => e) (Rp.tup ha ?_)
    have e2 : Dw.cutD xs lo hi = xs := by
      unfold Dw.cutD
      rw [← hl] at e
      rw [e.1, e.2, List.drop_zero, Nat.sub_zero, List.take_length]
    rw [e2]
    exact rl
  · refine k _ _ _ q1 (same_new np) (Rp.tup upd_same (RpL.keep (Kp.same (same_new np)) _ _ ?_))
    unfold Dw.cutD cutV
    rw [hl]
    exact rpL_take _ (rpL_drop _ rl)
theorem dSum (hc : X.calm = true) : CallR X (.builtin "sum") (cD RSum) := CallR.of (cr_sum hc) fun x H Q q => by
  obtain ⟨ds, K, rl, q, k⟩ := q
  obtain ⟨d, rfl, q1⟩ := on1_go q
  obtain ⟨xs, rfl, ns, rfl, q2⟩ := isL_go q1
  obtain ⟨u, rfl, r2⟩ := rpL1 rl
  obtain ⟨a, o, vs, rfl, ha, rl2⟩ := rp_list r2
  cases rpL_ints rl2
  exact ⟨a, ns, rfl, .inl (.inr ⟨o, ha⟩), k _ _ _ q2 (fun _ _ e => e) Rp.int⟩
theorem mJoin2 : MtR X "str.join" (mD MJoin2) := MtR.of mt_join fun x xs H Q q => by
  obtain ⟨d, ds, K, r, rl, q, k⟩ := q
  obtain ⟨a, rfl, q1⟩ := isS_go q
  obtain ⟨e, rfl, q2⟩ := on1_go q1
  obtain ⟨y, rfl, r1⟩ := rpL1 rl
  cases rp_str r
  split at q2
  · obtain ⟨ys, rfl, h1, q3⟩ := q2
    obtain ⟨p, o, vs, rfl, ha, rl⟩ := rp_list r1
    cases rpL_strs rl
    exact ⟨a, p, ys, rfl, rfl, .inl (.inl (.inr ⟨o, ha⟩)), h1, k _ _ _ q3 (fun _ _ e => e) Rp.str⟩
  · obtain ⟨ys, rfl, h1, q3⟩ := q2
    obtain ⟨p, vs, rfl, ha, rl⟩ := rp_tup r1
    cases rpL_strs rl
    exact ⟨a, p, ys, rfl, rfl, .inr (SqT.of ha), h1, k _ _ _ q3 (fun _ _ e => e) Rp.str⟩
  · exact q2.elim
/-! ### xs * n -/
theorem op_repR : OpR X (binaryOp .Mult) (fun x y H Q => ∃ l k xs, x = .ref l ∧ y = .int k ∧ Rd H l (.lst xs) ∧ -(2 ^ 63) ≤ k ∧ k < 2 ^ 63 ∧ xs.length * k.toNat ≤ sizeLine ∧ ∀ p, H p = none → Q (.ref p) (upd H p (.lst (List.replicate k.toNat xs).flatten))) := by
  intro pins s σ H x y v u Q I rx ry h
  obtain ⟨l, k, xs, rfl, rfl, hH, h1, h2, hz, q⟩ := h
  cases rx
  obtain ⟨t, rfl⟩ := ry
  obtain ⟨z, its, n, r, e⟩ := hH.ok I.hok
  have hl := r.length
  have hlen : its.toArray.size * k.toNat ≤ sizeLine := by rw [List.size_toArray, ← hl]; exact hz
  have hcap : ¬ its.toArray.size * k.toNat > (2 ^ 63 - 1) / 8 := by
    have : (sizeLine : Nat) ≤ (2 ^ 63 - 1) / 8 := by decide
    omega
  have hfit : ¬ (!Builtin.List.listFitsIndex k) = true := by
    rw [fitsIndex_both h1 h2]
    exact Bool.false_ne_true
  have hlong : ¬ Builtin.List.listTooLong (its.toArray.size * k.toNat) = true := by
    rw [notLongL hlen]
    exact Bool.false_ne_true
  have hnew : List.foldl (fun x1 x2 => x1 ++ x2) #[] (List.replicate (if its.toArray.isEmpty = true then 0 else k.toNat) its.toArray) = (List.replicate k.toNat its).flatten.toArray := by
    have f0 : ∀ m : Nat, List.foldl (fun x1 x2 => x1 ++ x2) #[] (List.replicate m its.toArray) = (List.replicate m its).flatten.toArray := fun m => by
      have := foldl_rep its m []
      rw [List.nil_append] at this
      exact this
    rw [f0]
    cases its with
    | nil => simp
    | cons a r' => rw [if_neg (by simp)]
  refine wpAny_binaryOp_repeat_ref (T := "list") (U := "int") (by decide) ⟨_, e, rfl⟩ (fun s' => typeIs_int s' k t) noFill_list_mul F.fills_int_mul F.slot_int_rmul repeat_list F.slot_int_index.lookup
    (call_meets F.slot_int_rmul (typeIs_int s k t) F.entry_int_rmul (F.args_int_rmul_2 _ _) (int___rmul___int_list k t l its.toArray n)
      ⟨e, rfl, ⟨_, e, rfl⟩, call_meets F.slot_list_mul ⟨_, e, rfl⟩ F.entry_list_mul (F.args_list_mul_2 _ _) (AutoListH.list___mul___list_int_3 l its.toArray n k t hfit hcap hlong) ⟨e, ?_⟩⟩)
  rw [hnew]
  exact ⟨.ref _, _, I.lnew (t' := s.toks) (r.rep k.toNat) (by rw [PyProof.Rows.lm_len_rep_flat, Nat.mul_comm]; exact hz), rfl, q _ I.fresh⟩
theorem rpL_rep {H : Hp} {ds : List PyData} {vs : List V} (r : RpL H ds vs) : ∀ n : Nat, RpL H (List.replicate n ds).flatten (List.replicate n vs).flatten
  | 0 => RpL.nil
  | n + 1 => by
    rw [List.replicate_succ, List.replicate_succ, List.flatten_cons, List.flatten_cons]
    exact rpL_append r (rpL_rep r n)
theorem dRep : OpR X (binaryOp .Mult) (rN NRep) := OpR.of op_repR fun x y H Q q => by
  obtain ⟨d, e, K, r1, r2, q, k⟩ := q
  obtain ⟨xs, rfl, q1⟩ := isL_go q
  obtain ⟨i, rfl, h0, h1, hz, q2⟩ := isI_go q1
  obtain ⟨p, o, vs, rfl, ha, rl⟩ := rp_list r1
  cases rp_int r2
  refine ⟨p, i, vs, rfl, rfl, .inr ⟨o, ha⟩, by omega, by omega, ?_, fun l nl => k _ _ _ q2 ⟨_, nl, rfl, rpL_rep rl _⟩⟩
  rw [sizeLine_eq, ← rpL_len rl]
  have : xs.length * i.toNat ≤ 1000 * 1000 := Nat.mul_le_mul hz (by omega)
  omega
end
/-- a, b = data, new -/
def DParDN (i j : Nat) (T : TD) (U : TN) : TDS := fun DD ρ => T ρ fun d ρ1 => U ρ1 fun dv ρ2 => DD.nx ((ρ2.set i (some (.d d))).set j (some dv))
instance iParDN {C : DC} {i j : Nat} {t u : TE} {T : TD} {U : TN} [r : Ref C t T] [s : RefN C u U] : RefS C (tPar i j (tCons t (tCons u tNil))) (DParDN i j T U) := ⟨fun {D σ H ρ DD} I h n rt bk ct =>
  r.go I h fun d ρ1 w H1 q1 k1 I1 r1 => s.go I1 q1 fun dv ρ2 p H2 q2 k2 I2 N2 => ⟨_, _, rfl, n _ _ _ q2 (k1.trans k2) (by
    have I3 := I2.setD (i := i) (r1.keep k2)
    refine I3.set N2.dv fun _ l y nl e m => ?_
    rcases get_set e with ⟨rfl, e2, hl⟩ | ⟨ne2, e2⟩
    · cases e2
      cases m
    · rw [List.getElem?_set_ne (Ne.symm ne2)]
      exact N2.ap l y e2 m)⟩⟩
end Dw
end
section
set_option Elab.async false
set_option linter.all false
set_option maxRecDepth 100000
set_option maxHeartbeats 4000000
/-! Tg, part Zu: Dw: own lists extended by data, a, b, .. = a list, list(d.items()), d[x], y = e, []. -/
namespace Dw
open PySem PySem.Spec PyProof.Rows L2 Tg LamX
section
variable {X : Cx}
/-! ### xs.extend(ys) -/
def rExtendR : V → List V → Hp → VK → Prop := fun x vs H Q => ∃ l b xs zs, x = .ref l ∧ vs = [.ref b] ∧ H l = some (.lst xs) ∧ Rd H b (.lst zs) ∧ xs.length + zs.length ≤ sizeLine ∧ Q .non (upd H l (.lst (xs ++ zs)))
theorem mt_extendR : MtM X "list.extend" rExtendR := by
  intro pins s σ H x vs v us Q I rx rv h
  obtain ⟨l, b, xs, zs, rfl, rfl, hH, hB, hz, q⟩ := h
  cases rx
  obtain ⟨u, rfl, ru⟩ := rv.one
  cases ru
  obtain ⟨z, its, n, r, hl, e⟩ := I.lstM hH
  obtain ⟨z2, its2, n2, r2, e2⟩ := hB.ok I.hok
  have hl2 := r2.length
  have hsz : its.toArray.size + its2.toArray.size ≤ sizeLine := by rw [List.size_toArray, List.size_toArray]; omega
  have hlong : ¬ (!its.toArray.isEmpty && Builtin.List.listTooLong (its.toArray.size + its2.toArray.size)) = true := by
    rw [notLongL hsz, Bool.and_false]
    exact Bool.false_ne_true
  refine call_meets F.slot_list_extend ⟨_, e, rfl⟩ F.entry_list_extend (F.args_list_extend_2 _ _)
    (AutoSeq1.list_extend_list_list_0 l its.toArray n b its2.toArray n2 hlong (by rw [List.size_toArray]; omega) (by omega)) ⟨e, e2, ?_⟩
  refine ⟨.non, _, I.lset (its' := its ++ its2) hH e (by simp) (r.append r2) ?_, rfl, q⟩
  rw [List.length_append]
  omega
/-! ### (a, b, ..) = a list -/
theorem draw_list {prog : Program} {w : World} {A : Around} {E : Value → Shared → Prop} {it t : Addr} {items : Array Value} (hne : t ≠ it) : ∀ (n i : Nat) (s : Shared) (Q : List Value → Shared → Prop), s.heap.IsListIter it t i → s.heap.IsList t items → i + n ≤ items.size →
    (∀ h', h'.IsListIter it t (i + n) → Heap.SameBut it s.heap h' → Q ((items.toList.drop i).take n) { s with heap := h' }) → wpAny (model prog w) A (draw (.ref it) n) Q E s
  | 0, i, s, Q, hit, _, _, hQ => by
    show wpAny _ _ (pure []) Q E s
    exact wpAny_pure (by simpa using hQ s.heap hit (Heap.SameBut.refl ..))
  | n + 1, i, s, Q, hit, ht, hle, hQ => by
    have hlt : i < items.size := by omega
    show wpAny _ _ (pyNext (.ref it) >>= _) Q E s
    refine wpAny_bind (wpAny_pyNext_list_item hit ht (x := items[i]) (by simp [hlt]) fun h₁ hit₁ hs₁ => ?_)
    refine wpAny_bind (wpAny_holding (draw_list hne n (i + 1) _ _ hit₁ (ht.extBut hs₁.extBut hne) (by omega) fun h₂ hit₂ hs₂ => wpAny_pure ?_))
    have hd : items.toList.drop i = items[i] :: items.toList.drop (i + 1) := by simp [List.drop_eq_getElem_cons, hlt]
    have := hQ h₂ (by rw [show i + (n + 1) = i + 1 + n by omega]; exact hit₂) (hs₁.trans hs₂)
    rw [hd, List.take_succ_cons] at this
    exact this
theorem unpackItems_list {prog : Program} {w : World} {A : Around} {E : Value → Shared → Prop} {s : Shared} {t : Addr} {items : Array Value} {Q : List Value → Shared → Prop} (hh : A.handled = none) (ht : s.heap.IsList t items)
    (hQ : ∀ h', Heap.ExtBut s.heap.objs.size s.heap h' → Q items.toList { s with heap := h' }) : wpAny (model prog w) A (unpackItems (.ref t) items.size none) Q E s := by
  have hlt : t ≠ s.heap.objs.size := by obtain ⟨o, ho, _⟩ := ht; exact Nat.ne_of_lt (Heap.lt_size ho)
  unfold unpackItems
  refine wpAny_bind ?_
  unfold notIterableAtAll
  refine wpAny_bind (wpAny_specialOf ht.typeIs slot_list_iter.lookup ?_)
  refine wpAny_pure ?_
  simp only [Bool.false_eq_true, if_false]
  refine wpAny_bind (wpAny_holding (wpAny_pyIter_list ht ?_))
  refine wpAny_bind (wpAny_holding (draw_list hlt items.size 0 _ _ ⟨_, Heap.get?_push_size _ rfl, rfl, rfl⟩ (ht.push _) (by omega) fun h₁ hit₁ hs₁ => ?_))
  have hall : List.take items.size (List.drop 0 items.toList) = items.toList := by
    rw [List.drop_zero]; exact List.take_of_length_le (by simp)
  rw [hall]
  rw [if_neg (by simp)]
  have ht₁ : h₁.IsList t items := (ht.push _).extBut hs₁.extBut hlt
  refine wpAny_bind (wpAny_holding (wpAny_pyNext_list_end hh hit₁ ht₁ (by simp) fun h₂ he₂ => ?_))
  simp only [Option.isSome_none, Bool.false_eq_true, if_false]
  refine wpAny_pure (hQ h₂ fun b o hb e => he₂ b o hb (hs₁.extBut b o hb (Heap.get?_push_of_some _ e)))
def gTupL (n : Nat) (t : TGs) : TG := fun v σ H Q => ∃ a xs, v = .ref a ∧ Rd H a (.lst xs) ∧ xs.length = n ∧ t xs σ H Q
theorem pg_tupL {es : List Expr} {k : Nat} {t : TGs} {n : Nat} {pos : Pos} (hc : X.calm = true) (h : PGs X es t)
    (hn : (assignEach es X.env).length = n := by rfl) (hst : (assignEach es X.env).findIdx? (·.1) = none := by rfl) : PG X (.Tuple es k pos) (gTupL n t) := by
  refine ⟨fun pins s σ H v u Q I r hw => ?_⟩
  obtain ⟨a, xs, e1, hq, hl, hw⟩ := hw
  subst e1
  cases r
  obtain ⟨z, its, n', rv, e⟩ := hq.ok I.hok
  have ht : s.heap.IsList a its.toArray := ⟨_, e, rfl, _, rfl⟩
  rw [assign_Tuple]
  refine wpAny_bind (wpAny_standAt ?_)
  unfold unpack
  rw [show (assignEach es X.env).length = its.toArray.size by rw [hn, ← hl, rv.length]; simp, hst]
  refine wpAny_bind (wpAny_holding (unpackItems_list (I.ok.hd hc) ht fun h' hx => ?_))
  have I1 : Inv X pins σ H { s with heap := h' } := I.kept (t' := s.toks) fun b o e => hx b o (Nat.ne_of_lt (Heap.lt_size e)) e
  exact h.run pins _ σ H xs _ Q I1 (by simpa using rv) hw
/-! ### list(d.items()) of a locked dict -/
def rItemsR : V → Hp → VK → Prop := fun x H Q => ∃ (d : Addr) (kvs : List (Key × V)), x = .ref d ∧ Rd H d (.dK kvs) ∧
  ∀ (H' : Hp) (p : Addr) (ts : List Addr), (∀ b o, H b = some o → H' b = some o) → H p = none → (∀ t ∈ ts, H t = none) → p ∉ ts → H' p = some (.lst (ts.map V.ref)) → Paired (fun (t : Addr) (q : Key × V) => H' t = some (.tup [kV q.1, q.2])) ts kvs → Q (.ref p) H'
def tListItemsR (te : TE) : TE := fun σ H Q => te σ H fun x H1 => rItemsR x H1 Q
theorem pe_listItemsR {e : Expr} {te : TE} {p apos cpos pos : Pos} (hc : X.calm = true) (he : PE X e te) (hg : Gl X "list") (hm : X.mg "list" = none) (hv : bootBuiltins "list" = some (.type "list")) (hbase : attributeBase e "items" X.env (eval e X.env) = eval e X.env := by rfl) (hline : (apos.endLine == cpos.line) = true := by rfl)
    (hs : starEach [.Call (.Attribute e "items" apos) [] [] cpos] X.env = (false, eval (.Call (.Attribute e "items" apos) [] [] cpos) X.env) :: starEach [] X.env := by rfl) :
    PE X (.Call (.Name "list" p) [.Call (.Attribute e "items" apos) [] [] cpos] [] pos) (tListItemsR te) := by
  refine ⟨fun pins s σ H Q I hq => ?_⟩
  refine wpAny_Call_Name_kw (ld_blt I hg hm hv ?_)
  refine PyProof.Rows.callWith_type1 ?_ hs rfl
  rw [hs]
  show wpAny _ _ (spliced ((false, eval (.Call (.Attribute e "items" apos) [] [] cpos) X.env) :: backTo pos (starEach [] X.env))) _ _ s
  refine Calls.spliced_cons ?_
  refine wpAny_Call_method (T := "dict") (id := "dict.items") hbase rfl hline F.plainAttrs_dict F.slot_dict_items F.type_dict_items (thn (he.run pins s σ H _ I hq) fun u s1 ⟨x, H1, I1, rx, d, kvs, ex, hd, q⟩ => ?_)
  subst ex
  obtain rfl : u = Value.ref d := rx
  obtain ⟨hz, hs0, vs, kv, hdo⟩ := hd.ok I1.hok
  obtain ⟨ep, hat⟩ := hdo.dictAt
  have lk : kvs.length = vs.length := Paired.length kv
  have I2 : Inv X pins σ H1 { s1 with heap := s1.heap.push { cls := .type "dict_items", data := .fields #[.ref d] } } := I1.kept (t' := s1.toks) fun b ob q => Heap.get?_push_of_some _ q
  refine ⟨hdo.typeIs, hdo.mapOf.noDict, ?_⟩
  show wpAny _ _ (callWith cpos (.builtin "dict.items") [.ref d] [] []) _ X.xe s1
  refine method_meetsIn F.slot_dict_items F.entry_dict_items rfl (PySem.evalArgs_none ⟨rfl, hdo.typeIs, F.args_dict_items_1 _, _, meets_dict_items (mixKind X.prog X.w) d hs0, ⟨vs, hdo⟩, ?_⟩)
  refine Calls.spliced_nil ?_
  refine PySem.W.kdx_call (knd := mixKind X.prog X.w) (kvs := vs) (ep := ep) (I1.ok.hd hc) ⟨_, Heap.get?_push_size _ rfl, rfl, rfl⟩ (hat.push _) (by omega) fun h' tk acc c as hk hS hl hG hacc => ?_
  obtain ⟨H', k1, k2, k3, k4, k5, k6, J⟩ := LiI.items_laid (tk := tk) I2 hz kv hk hS hl hG hacc
  exact ⟨.ref _, H', J, rfl, q H' _ as k1 k2 k3 k4 k5 k6⟩
end
/-! ### in Dw -/
def DExt (i : Nat) (T : TD) : TDS := fun DD ρ => (∃ xs, ρ[i]? = some (some (.l xs))) ∧ T ρ fun d ρ1 => isL d fun ys => match ρ1[i]? with
  | some (some (.l xs)) => xs.length + ys.length < 1000000 ∧ DD.nx (ρ1.set i (some (.l (xs ++ ys))))
  | _ => False
def DListItems (T : TD) : TN := fun ρ K => T ρ fun d ρ1 => isM d fun kvs => K (.l (pairsP kvs)) ρ1
def GLst (n : Nat) (Gs : TDGs) : TDG := fun d ρ K => isL d fun ds => ds.length = n ∧ Gs ds ρ K
theorem pairs_rp {H : Hp} : ∀ {ts : List Addr} {ks : List (Key × V)} {kvs : List (Str × PyData)}, Paired (fun (t : Addr) (q : Key × V) => H t = some (.tup [kV q.1, q.2])) ts ks → Paired (fun (p : Str × PyData) (q : Key × V) => q.1 = .inr p.1 ∧ Rp H p.2 q.2) kvs ks → RpL H (pairsP kvs) (ts.map V.ref)
  | _, _, _, .nil, .nil => RpL.nil
  | _ :: _, _ :: _, _ :: _, .cons h r, .cons h2 r2 => by
    obtain ⟨e, rp⟩ := h2
    refine RpL.cons (Rp.tup h (RpL.cons ?_ (RpL.cons rp RpL.nil))) (pairs_rp r r2)
    rw [e]
    exact Rp.str
section
variable {C : DC} {Kf : PySem.W.Frag}
instance iExt {i : Nat} {t : TE} {T : TD} [r : Ref C t T] : RefS C (tDrop (tBM Kf "list" rExtendR (tVar i) (tCons t tNil))) (DExt i T) := ⟨fun {D σ H ρ DD} I h n rt bk ct => by
  obtain ⟨⟨xs0, e0⟩, h⟩ := h
  obtain ⟨w0, hw0, a0, vs0, rfl, ha0, _⟩ := I.at_ i _ e0
  refine ⟨_, hw0, .inl ⟨rfl, vs0, SqL.of ha0⟩, r.go I h fun d ρ1 w H1 q1 k1 I1 r1 => ?_⟩
  obtain ⟨ys, rfl, q1⟩ := isL_go q1
  split at q1
  · rename_i xs e
    obtain ⟨w1, hw1, a, vs, rfl, ha, rl, n0, ns, nn⟩ := I1.at_ i _ e
    rw [hw0] at hw1
    cases hw1
    obtain ⟨b, o, ws, rfl, hb, rl2⟩ := rp_list r1
    have kp := kp_but ha True.intro (But.upd (p := a0) (H := H1) (o := .lst (vs ++ ws)))
    refine ⟨a0, b, vs, ws, rfl, rfl, ha, .inr ⟨o, hb⟩, ?_, n _ _ _ q1.2 (k1.trans kp) ?_⟩
    · have := q1.1
      rw [← rpL_len rl, ← rpL_len rl2, sizeLine_eq]
      omega
    · have I2 := (I1.forget i).but ha True.intro (But.upd (o := .lst (vs ++ ws))) n0 ns nn (DI.own I1 e hw0 rfl)
      have I3 := I2.tell (i := i) (dv := .l (xs ++ ys)) hw0 ⟨a0, _, rfl, upd_same, RpL.keep kp _ _ (rpL_append rl rl2), n0, ns, nn⟩ fun _ j y ne ej my => DI.own I1 e hw0 rfl j y ej my
      rw [set_set] at I3
      exact I3
  · exact q1.elim⟩
instance iListItems {t : TE} {T : TD} [r : Ref C t T] : RefN C (tListItemsR t) (DListItems T) := ⟨fun {σ H Q ρ K} I h k =>
  r.go I h fun d ρ1 w H1 q1 k1 I1 r1 => by
    obtain ⟨kvs, rfl, q2⟩ := q1
    obtain ⟨a, o, ks, rfl, ha, pr⟩ := rp_dict r1
    refine ⟨a, ks, rfl, .inr ⟨o, ha⟩, fun H' p ts s np nts nin hp hpr => ?_⟩
    have s1 : Same H1 H' := s
    have I2 := I1.same s1
    obtain ⟨h1, h2, h3⟩ := I1.h0 np
    have pr' : Paired (fun (p : Str × PyData) (q : Key × V) => q.1 = .inr p.1 ∧ Rp H' p.2 q.2) kvs ks := Paired.mono (fun _ _ h => ⟨h.1, h.2.same s1⟩) pr
    exact k _ _ _ _ q2 (k1.trans (Kp.same s1)) I2 ⟨rfl, ⟨p, _, rfl, hp, pairs_rp hpr pr', h1, h2, h3⟩, I1.apart np⟩⟩
instance igLst {n : Nat} {gs : TGs} {Gs : TDGs} {ts : List Nat} [s : RefGs C gs Gs ts] : RefG C (gTupL n gs) (GLst n Gs) ts := ⟨fun {σ H Q ρ K d w} I r h k => by
  obtain ⟨ds, rfl, hl, h⟩ := isL_go h
  obtain ⟨a, o, xs, rfl, ha, rl⟩ := rp_list r
  exact ⟨a, xs, rfl, .inr ⟨o, ha⟩, by rw [← rpL_len rl]; exact hl, s.go I rl h k⟩⟩
/-- i, j, l = e, new, new -/
def DPar3DNN (i j l : Nat) (T : TD) (U V : TN) : TDS := fun DD ρ => T ρ fun d ρ1 => U ρ1 fun dv ρ2 => V ρ2 fun dw ρ3 => j ≠ l ∧ DD.nx (((ρ3.set i (some (.d d))).set j (some dv)).set l (some dw))
instance iPar3DNN {i j l : Nat} {t u v : TE} {T : TD} {U V : TN} [s : Ref C t T] [r : RefN C u U] [s' : ∀ C', RefN C' v V] : RefS C (tPar3 i j l (tCons t (tCons u (tCons v tNil)))) (DPar3DNN i j l T U V) := ⟨fun {D σ H ρ DD} I h n rt bk ct =>
  s.go I h fun d ρ1 w H1 q1 k1 I1 r1 => r.go I1 q1 fun dv ρ2 p H2 q2 k2 I2 N2 => New.underN I2 N2 q2 fun dw ρ3 q H3 q3 k3 I3 N3 M3 ne =>
    ⟨_, _, _, rfl, n _ _ _ q3.2 ((k1.trans k2).trans k3) (by
      have r1' := r1.keep (k2.trans k3)
      have I4 := I3.setD (i := i) r1'
      have I5 := I4.set (i := j) N3.dv fun _ j' y ne e m => by
        rcases get_set e with ⟨rfl, e2, hl⟩ | ⟨ne2, e2⟩
        · cases e2
          cases m
        · rw [List.getElem?_set_ne (Ne.symm ne2)]
          exact N3.ap j' y e2 m
      refine I5.set (i := l) M3.dv fun _ j' y nl e m => ?_
      rcases get_set e with ⟨rfl, e2, hl⟩ | ⟨ne2, e2⟩
      · rw [List.getElem?_set_self (by rw [← I4.len]; exact hl)]
        intro z
        injection z with z
        injection z with z
        injection z with z
        exact ne z.symm
      · rw [List.getElem?_set_ne (Ne.symm ne2)]
        rcases get_set e2 with ⟨rfl, e3, hl⟩ | ⟨ne3, e3⟩
        · cases e3
          cases m
        · rw [List.getElem?_set_ne (Ne.symm ne3)]
          exact M3.ap j' y e3 m)⟩⟩
/-- d[x], y = e, [] -/
def DPutNew (i j : Nat) (T U : TD) : TDS := fun DD ρ => T ρ fun d ρ1 => GPut i U d ρ1 fun ρ2 => DD.nx (ρ2.set j (some (.l [])))
instance iPutNew {i j : Nat} {t u : TE} {T U : TD} [r : Ref C t T] [s : ∀ C', Ref C' u U] : RefS C (tAsg (tTup (tCons t (tCons (tLst tNil) tNil))) (gTup Kf 2 (gCons (gSub (tVar i) u rSetD) (gCons (gName j) gNil)))) (DPutNew i j T U) := ⟨fun {D σ H ρ DD} I h n rt bk ct =>
  r.go I h fun d ρ1 w H1 q1 k1 I1 r1 => by
    refine ⟨len_ok (Nat.zero_le _), fun q nq => ?_⟩
    obtain ⟨I2, k2, N2⟩ := I1.newL (xs := []) (p := q) (H' := upd H1 q (.lst [])) ⟨[], nq, rfl, RpL.nil⟩
    refine ⟨len_ok (by show 2 ≤ 1000; decide), fun p2 np2 => ⟨p2, _, rfl, SqT.of upd_same, rfl, ?_⟩⟩
    have I3 := I2.same (same_new (o := .tup [w, .ref q]) np2)
    have N3 : New C ρ1 σ (upd (upd H1 q (.lst [])) p2 (.tup [w, .ref q])) (.l []) q := N2.keep (u := .lst []) upd_same (Kp.new np2) (same_new np2 _ _ upd_same) N2.ap
    obtain ⟨u', hu, ld, mu, n0, ns, nn⟩ := N3.ld
    refine ⟨w, [.ref q], rfl, ?_⟩
    refine (igPut (C := C.hold q u' nn) (U := U)).go (I3.hold hu N3.ap) ((r1.keep (k2.trans (Kp.new np2)))) q1 fun ρ2 σ2 H4 q4 k4 I4 tch => ?_
    obtain ⟨J4, hq4, ap4⟩ := I4.unhold
    have es : σ2 = σ := List.ext_getElem? fun i => tch.2 i (by simp)
    subst es
    have N4 := N3.keep hu k4 hq4 (ρ' := ρ2) ap4
    refine ⟨.ref q, [], rfl, ?_⟩
    exact ⟨rfl, n _ _ _ q4 (((k1.trans k2).trans (Kp.new np2)).trans k4) (J4.set (i := j) N4.dv fun _ l y _ e m => N4.ap l y e m)⟩⟩
end
end Dw
end
section
set_option Elab.async false
set_option linter.all false
set_option maxRecDepth 100000
set_option maxHeartbeats 4000000
/-! Tg, part Zv: Dw: xs.pop(), a list's truth. -/
namespace En
open PySem PySem.Spec PyProof.Rows L2
theorem new_enum1 {v : Value} {o : Obj} {Hh : Heap → Prop} (B : Begins v o Hh) :
    Meets (Builtin.«enumerate.__new__» ⟨[.type "enumerate", v], []⟩) (fun _ R s => Hh s.heap ∧
      R (.ok (.ret (.ref (s.heap.push o).objs.size))) { s with heap := (s.heap.push o).push { cls := .type "enumerate", data := .fields #[.none, .bool false, .ref s.heap.objs.size, rawInt 0, .none, .none] } }) := by
  refine .of_wp fun prog w A R s h => ?_
  obtain ⟨hp, gl, dd, tk, oz⟩ := s
  obtain ⟨h1, h⟩ := h
  have su := sub_enumerate
  have it1 : ∀ {A' : Around} {E : Value → Shared → Prop} {Q : Value → Shared → Prop}, Q (.ref hp.objs.size) ⟨hp.push o, gl, dd, tk, oz⟩ → wpAny (model prog w) A' (pyIter v) Q E ⟨hp, gl, dd, tk, oz⟩ := fun q => B.iter prog w _ _ ⟨hp, gl, dd, tk, oz⟩ _ h1 q
  wp_walk using it1
  refine wpAny_stack_any fun st => wpAny_pure ?_
  split
  · rename_i cl _ _ _ _ _
    cases (cl == Value.type "enumerate") <;> (wp_walk using it1; exact ⟨_, rfl, h⟩)
  · wp_walk using it1
    exact ⟨_, rfl, h⟩
/-- enumerate(v) -/
theorem enum_begins1 {prog : Program} {w : World} {A : Around} {E : Value → Shared → Prop} {s : Shared} {v : Value} {o : Obj} {Hh : Heap → Prop} {Q : Value → Shared → Prop} (B : Begins v o Hh) (h1 : Hh s.heap)
    (h : ∀ h', IsEnum h' (s.heap.objs.size + 1) s.heap.objs.size 0 .none → h'.get? s.heap.objs.size = some o → (∀ b o, s.heap.get? b = some o → h'.get? b = some o) → Q (.ref (s.heap.objs.size + 1)) { s with heap := h' }) :
    wpAny (model prog w) A (call (.type "enumerate") [v]) Q E s := by
  refine callType_new F.called_enumerate (by decide) (F.typeCall_enumerate_1 _) (F.newCall_enumerate_1 _) (fun obj => F.args_object_init_2 obj _) F.entry_enumerate_new (new_enum1 B) ⟨h1, ?_⟩
  have hz : (s.heap.push o).objs.size = s.heap.objs.size + 1 := Heap.size_push ..
  show _ ∧ _
  rw [hz]
  have he : IsEnum ((s.heap.push o).push { cls := .type "enumerate", data := .fields #[.none, .bool false, .ref s.heap.objs.size, rawInt 0, .none, .none] }) (s.heap.objs.size + 1) s.heap.objs.size 0 .none := by
    have q := Heap.get?_push_size (s.heap.push o) (o := { cls := .type "enumerate", data := .fields #[.none, .bool false, .ref s.heap.objs.size, rawInt 0, .none, .none] }) rfl
    rw [hz] at q
    exact q
  exact ⟨⟨_, he, rfl⟩, h _ he (Heap.get?_push_of_some _ (Heap.get?_push_size _ B.free)) fun b o x => Heap.get?_push_of_some _ (Heap.get?_push_of_some _ x)⟩
def iEn1 (ta : TA) : TI := fun σ H R => ta σ H fun vs H1 => ∃ (b : Bool) (a : Addr) (xs : List V), vs = [.ref a] ∧ Is b H1 a xs ∧ R (ItenB b 0 a xs) H1
theorem pi_enum1 {X : Cx} {e : Expr} {ta : TA} {p pos tpos : Pos} {elts : List Expr} {kk : Nat} (hg : Gl X "enumerate") (hm : X.mg "enumerate" = none) (ha : PA X [e] ta) (hs : starEach [e] X.env = (false, eval e X.env) :: starEach [] X.env := by rfl) :
    PI X (.Tuple elts kk tpos) (.Call (.Name "enumerate" p) [e] [] pos) (iEn1 ta) := by
  refine ⟨fun pins s σ H R I h => ?_⟩
  refine Call_ (ld_blt I hg hm boot_enumerate (PyProof.Rows.callWith_type1 (thn (ha.run pos pins s σ H _ I h) fun us s1 ⟨vs, H1, I1, r1, q1⟩ => ?_) hs rfl))
  obtain ⟨b, a, xs, ex, hq, q⟩ := q1
  subst ex
  cases r1 with
  | cons r rr =>
    cases rr
    cases r
    obtain ⟨its, rv, co⟩ := is_co I1 hq
    have fin : ∀ h', IsEnum h' (s1.heap.objs.size + 1) s1.heap.objs.size 0 .none → ItAt b h' s1.heap.objs.size a 0 → (∀ c o, s1.heap.get? c = some o → h'.get? c = some o) → wpAny (model X.prog X.w) X.A (pyIter (.ref (s1.heap.objs.size + 1))) (PIE X pins σ (.Tuple elts kk tpos) R) X.xe { s1 with heap := h' } := fun h' he hit hk => by
      refine wpAny_pyIter_enum he ?_
      have I2 : Inv X pins σ H1 { s1 with heap := h' } := I1.kept (t' := s1.toks) hk
      refine ⟨s1.heap.objs.size + 1, [s1.heap.objs.size + 1, s1.heap.objs.size], _, _, H1, rfl, I2, turn_en b 0 a (s1.heap.objs.size + 1) s1.heap.objs.size xs, ⟨⟨.none, by rw [show (0 : Int) + ((0 : Nat) : Int) = 0 by omega]; exact he⟩, hit, Nat.succ_ne_self _⟩, fun c hc => ?_, q⟩
      have le : s1.heap.objs.size ≤ c := by
        rcases (by simpa using hc : c = s1.heap.objs.size + 1 ∨ c = s1.heap.objs.size) with z | z
        · rw [z]; exact Nat.le_add_right _ _
        · rw [z]; exact Nat.le_refl _
      exact I1.fpOk le (I1.hok.fresh le)
    cases b with
    | true => exact enum_begins1 (begins_tuple a its.toArray) co fun h' he ho hk => fin h' he ⟨_, ho, rfl, rfl⟩ hk
    | false => exact enum_begins1 (begins_list a its.toArray) co fun h' he ho hk => fin h' he ⟨_, ho, rfl, rfl⟩ hk
end En
namespace Dw
open En PySem PySem.Spec PyProof.Rows L2 Tg LamX
theorem DWhile.by_ {T : TDT} {U : TDS} {DD : DEnds} {ρ : DSt} (W : Nat → DSt → Prop) (n : Nat) (h0 : W n ρ) (hs : ∀ n ρ, W n ρ → T ρ fun b ρ1 => if b = true then U { nx := fun ρ' => ∃ m, m < n ∧ W m ρ', rt := DD.rt, bk := DD.nx, ct := fun ρ' => ∃ m, m < n ∧ W m ρ' } ρ1 else DD.nx ρ1) : DWhile T U DD ρ := ⟨W, ⟨n, h0⟩, hs⟩
theorem DWhile.inv {T : TDT} {U : TDS} {DD : DEnds} {ρ : DSt} (W : Nat → DSt → Prop) (X : DSt → Prop) (n : Nat) (h0 : W n ρ) (hx : ∀ ρ, X ρ → DD.nx ρ) (hs : ∀ n ρ, W n ρ → ∀ Q : DSt → Prop, (∀ ρ, X ρ → Q ρ) → T ρ fun b ρ1 => if b = true then U { nx := fun ρ' => ∃ m, m < n ∧ W m ρ', rt := DD.rt, bk := DD.nx, ct := fun ρ' => ∃ m, m < n ∧ W m ρ' } ρ1 else Q ρ1) : DWhile T U DD ρ := ⟨W, ⟨n, h0⟩, fun n ρ h => hs n ρ h _ hx⟩
def tTru (Kf : PySem.W.Frag) (t : TE) : TT := fun σ H Q => t σ H fun x H' => ∃ k, TruV Kf x H' k ∧ Q k H'
theorem pt_tru {X : Cx} {a : Expr} {ta : TE} (ha : PE X a ta) (he : ∀ whole, isTrue a X.env whole = (do let v ← whole; standAt a.pos; holding [v] (truthy v))) : PT X a (tTru X.K ta) := pt_truth ha he
def DTru (T : TD) : TDT := fun ρ K => T ρ fun d ρ1 => isL d fun xs => K (!xs.isEmpty) ρ1
def DPop0 (i : Nat) : TD := fun ρ K => match ρ[i]? with
  | some (some (.l xs)) => ∃ x, xs[xs.length - 1]? = some x ∧ K x (ρ.set i (some (.l xs.dropLast)))
  | _ => False
/-- enumerate of a list, a tuple -/
def IEn1 (TA : TDA) : TDI := fun ρ K => TA ρ fun ds ρ1 => match ds with
  | [.list xs] => K (enums 0 xs) ρ1
  | [.tuple xs] => K (enums 0 xs) ρ1
  | _ => False
instance iiEn1 {C : DC} {ta : TA} {TA : TDA} [r : RefA C ta TA] : RefI C (iEn1 ta) (IEn1 TA) := ⟨fun {σ H R ρ K} I h k =>
  r.go I h fun ds ρ1 ws H1 q1 k1 I1 r1 => by
    unfold IEn1 at *
    split at q1
    · rename_i xs
      obtain ⟨u, rfl, r2⟩ := rpL1 r1
      obtain ⟨a, o, vs, rfl, ha, rl⟩ := rp_list r2
      exact ⟨false, a, vs, rfl, ⟨o, ha⟩, k _ _ _ _ q1 k1 I1 (walkD_en (b := false) ⟨o, ha⟩ rl)⟩
    · rename_i xs
      obtain ⟨u, rfl, r2⟩ := rpL1 r1
      obtain ⟨a, vs, rfl, ha, rl⟩ := rp_tup r2
      exact ⟨true, a, vs, rfl, ha, k _ _ _ _ q1 k1 I1 (walkD_en (b := true) ha rl)⟩
    · exact q1.elim⟩
/-- x in xs, xs own -/
def DInO (neg : Bool) (T : TD) (i : Nat) : TD := fun ρ K => T ρ fun e ρ1 => match ρ1[i]? with
  | some (some (.l xs)) => flD e = true ∧ xs.all flD = true ∧ K (.bool (if neg then !inF e xs else inF e xs)) ρ1
  | _ => False
theorem rpL_drop_last {H : Hp} {ds : List PyData} {xs : List V} (r : RpL H ds xs) : RpL H ds.dropLast xs.dropLast := by
  rw [List.dropLast_eq_take, List.dropLast_eq_take, rpL_len r]
  exact rpL_take _ r
section
variable {C : DC} {Kf : PySem.W.Frag}
instance iTru {t : TE} {T : TD} [r : Ref C t T] : RefT C (tTru Kf t) (DTru T) := ⟨fun {σ H Q ρ K} I h k =>
  r.go I h fun d ρ1 w H1 q1 k1 I1 r1 => by
    obtain ⟨xs, rfl, q2⟩ := isL_go q1
    obtain ⟨a, o, vs, rfl, ha, rl⟩ := rp_list r1
    refine ⟨!vs.isEmpty, .inl ⟨vs, .inl (.inr ⟨o, ha⟩), rfl⟩, ?_⟩
    have e2 : vs.isEmpty = xs.isEmpty := by
      have := rpL_len rl
      cases xs <;> cases vs <;> first | rfl | cases this
    rw [e2]
    exact k _ _ _ q2 k1 I1⟩
instance iInO {neg : Bool} {t : TE} {T : TD} {i : Nat} [r : Ref C t T] : Ref C (tOp (rIn Kf neg) t (tVar i)) (DInO neg T i) := ⟨fun {σ H Q ρ K} I h k =>
  r.go I h fun e ρ1 w H1 q1 k1 I1 r1 => by
    split at q1
    · rename_i xs ex
      obtain ⟨w0, hw0, a0, vs, rfl, ha, rl, n0, ns, nn⟩ := I1.at_ i _ ex
      obtain ⟨f1, f2, q2⟩ := q1
      obtain ⟨h2, h3⟩ := inF_go f1 r1 f2 rl
      refine ⟨_, hw0, a0, vs, rfl, .inl (SqL.of ha), fl_go f1 r1, h2, ?_⟩
      rw [h3]
      exact k _ _ _ _ q2 k1 I1 Rp.bl
    · exact q1.elim⟩
instance iTupDN {i j : Nat} {t u : TE} {T : TD} {U : TN} [r : Ref C t T] [s : RefN C u U] : RefS C (tAsg (tTup (tCons t (tCons u tNil))) (gTup Kf 2 (gCons (gName i) (gCons (gName j) gNil)))) (DParDN i j T U) := ⟨fun {D σ H ρ DD} I h n rt bk ct =>
  r.go I h fun d ρ1 w H1 q1 k1 I1 r1 => s.go I1 q1 fun dv ρ2 p H2 q2 k2 I2 N2 => by
    refine ⟨len_ok (by show 2 ≤ 1000; decide), fun p2 np2 => ⟨p2, _, rfl, SqT.of upd_same, rfl, ?_⟩⟩
    have I3 := I2.same (same_new (o := .tup [w, .ref p]) np2)
    obtain ⟨u', hu, ld, mu, n0, ns, nn⟩ := N2.ld
    have N3 : New C ρ2 σ (upd H2 p2 (.tup [w, .ref p])) dv p := N2.keep hu (Kp.new np2) (same_new np2 _ _ hu) N2.ap
    refine ⟨w, [.ref p], rfl, .ref p, [], rfl, rfl, n _ _ _ q2 ((k1.trans k2).trans (Kp.new np2)) ?_⟩
    have I4 := I3.setD (i := i) ((r1.keep k2).keep (Kp.new np2))
    refine I4.set N3.dv fun _ l y nl e m => ?_
    rcases get_set e with ⟨rfl, e2, hl⟩ | ⟨ne2, e2⟩
    · cases e2
      cases m
    · rw [List.getElem?_set_ne (Ne.symm ne2)]
      exact N3.ap l y e2 m⟩
instance iPop0 {i : Nat} : Ref C (tBM0 Kf "list" rPop (tVar i)) (DPop0 i) := ⟨fun {σ H Q ρ K} I h k => by
  unfold DPop0 at h
  split at h
  · rename_i xs e
    obtain ⟨x, hx, q3⟩ := h
    obtain ⟨w0, hw0, a0, vs, rfl, ha, rl, n0, ns, nn⟩ := I.at_ i _ e
    refine ⟨_, hw0, .inl ⟨rfl, vs, SqL.of ha⟩, ?_⟩
    obtain ⟨v, h1, h2⟩ := rpL_at rl hx
    have hlen := rpL_len rl
    have kp := kp_but ha True.intro (But.upd (p := a0) (H := H) (o := .lst vs.dropLast))
    refine ⟨a0, vs, v, rfl, rfl, ha, by rw [← hlen]; exact h1, ?_⟩
    have I2 := (I.forget i).but ha True.intro (But.upd (o := .lst vs.dropLast)) n0 ns nn (DI.own I e hw0 rfl)
    have I3 := I2.tell (i := i) (dv := .l xs.dropLast) hw0 ⟨a0, _, rfl, upd_same, RpL.keep kp _ _ (rpL_drop_last rl), n0, ns, nn⟩ fun _ j y ne ej my => DI.own I e hw0 rfl j y ej my
    rw [set_set] at I3
    exact k _ _ _ _ q3 kp I3 (h2.keep kp)
  · exact h.elim⟩
end
end Dw
end
section
set_option Elab.async false
set_option linter.all false
set_option maxRecDepth 100000
set_option maxHeartbeats 4000000
/-! Tg, part Zw: Dw: name = [..] while an own thing is locked. -/
namespace Dw
open En PySem PySem.Spec PyProof.Rows L2 Tg LamX
theorem ps_setLk {X : Cx} {st : Stmt} {t : TE} {k : Nat} (i : Nat) (hk : k < X.N.length) (h : PS X st (tAsg t (gName k))) : PS X st (tAsg (tLk i (tFz t)) (gName k)) := by
  have h2 := ps_lock (ps_fzS (i := k) h)
  refine ⟨fun pins s σ H D I hw => h2.run pins s σ H D I ?_⟩
  obtain ⟨d, u, hd, mu, hw⟩ := hw
  refine ⟨d, u, hd, mu, fun od => ?_⟩
  have hl : k < σ.length := by rw [I.len]; exact hk
  refine Eq.mp (congrArg (t σ (upd H d (.frz od u))) (funext fun x => funext fun H1 => propext ?_)) (hw od)
  constructor
  · rintro ⟨p, u', rfl, h1, h2, h3⟩
    exact ⟨p, u', List.getElem?_set_self hl, h1, h2, fun o => h3 o⟩
  · rintro ⟨p, u', e, h1, h2, h3⟩
    rw [List.getElem?_set_self hl] at e
    cases e
    exact ⟨p, u', rfl, h1, h2, fun o => h3 o⟩
end Dw
end
section
set_option Elab.async false
set_option linter.all false
set_option maxRecDepth 100000
set_option maxHeartbeats 4000000
/-! Tg, part Zx: tuple(d). -/
namespace Dt
open PySem PySem.W PySem.Builtin PySem.Builtin.Str
open AutoSeq1 (wpAny_loadPart')
section
variable {prog : Program} {w : World} {A : Around} {E : Value → Shared → Prop} {s : Shared} {T : String} {r d : Addr} {n : Nat} {P : Nat → Value → Prop} {OK : Heap → Prop}
theorem collect_src {Q : List Value → Shared → Prop} (K : KdlSrc prog w T r d n P OK) (hh : A.handled = none) (hok : OK s.heap) (hn : n ≤ sizeLine)
    (hQ : ∀ (h' : Heap) (tk : Nat) (acc : Array Value), (∀ b o, s.heap.get? b = some o → h'.get? b = some o) → s.heap.objs.size < h'.objs.size → ItemsOf P acc n → Q acc.toList { s with heap := h', toks := tk }) : wpAny (model prog w) A (collect (.ref r)) Q E s := by
  have hlt := K.there _ hok
  unfold collect
  refine wpAny_bind (wpAny_runValue (codeAny_builtin PySem.F.entry_proto_collect ?_))
  rw [Around.under_plainId PySem.F.plain_proto_collect _]
  show wpAny _ A.in1 (newList [] >>= fun l => again (.builtin "list.__iadd__" ⟨[l, .ref r], []⟩)) _ _ s
  refine wpAny_bind (wpAny_newObj_type ?_)
  refine wpAny_pure ⟨plainId_quiet PySem.F.plain_list_iadd _, codeAny_builtin PySem.F.entry_list_iadd ?_⟩
  rw [Around.under_plainId PySem.F.plain_list_iadd _]
  show wpAny _ A.in1 (Builtin.List.listExtendWith (.ref s.heap.objs.size) (.ref r) (.ref s.heap.objs.size)) _ _ _
  have hS : (s.heap.push { cls := .type "list", data := .seq ([] : List Value).toArray }).get? s.heap.objs.size = some { cls := .type "list", data := .seq #[] } := Heap.get?_push_size _ rfl
  have fin : ∀ (rs : Result) (s' : Shared), (rs = .ok (.ret (.ref s.heap.objs.size)) ∧ ∃ h' tk acc' c', s' = { s with heap := h', toks := tk } ∧ (∀ b o, s.heap.get? b = some o → h'.get? b = some o) ∧ h'.get? s.heap.objs.size = some { cls := .type "list", dict := none, data := .seq acc' c', slots := #[] } ∧ ItemsOf P acc' n) →
      (match rs with
        | .ok (.ret v) => wpAny (model prog w) A (match v with
          | .ref a => do
            match (← load a).data with
            | .seq xs _ => pure xs.toList
            | _ => unsupported "internal:collect"
          | _ => unsupported "internal:collect") Q E s'
        | .ok _ => False
        | .error e => E e s') := by
    rintro rs s' ⟨rfl, h', tk, acc', c', rfl, hk, hS', hacc⟩
    show wpAny _ A (load s.heap.objs.size >>= _) _ _ _
    refine wpAny_bind (wpAny_load hS' ?_)
    exact wpAny_pure (hQ h' tk acc' hk (Heap.lt_size hS') hacc)
  refine wpAny_mono (kdl_extend (A := A) (s := { s with heap := s.heap.push { cls := .type "list", data := .seq ([] : List Value).toArray } }) (R := fun rs s' => rs = .ok (.ret (.ref s.heap.objs.size)) ∧ ∃ h' tk acc' c', s' = { s with heap := h', toks := tk } ∧ (∀ b o, s.heap.get? b = some o → h'.get? b = some o) ∧ h'.get? s.heap.objs.size = some { cls := .type "list", dict := none, data := .seq acc' c', slots := #[] } ∧ ItemsOf P acc' n) K hh (K.keep _ _ hok fun b _ o e => Heap.get?_push_of_some _ e) _ (Nat.ne_of_gt hlt.1) (Nat.ne_of_gt hlt.2) _ _ hS (fun h' tk acc' c' hk hS' hacc => ⟨rfl, h', tk, acc', c', rfl, fun b o e => hk b o (Nat.ne_of_lt (Heap.lt_size e)) (Heap.get?_push_of_some _ e), hS', hacc⟩) hn) (fun f s' h => ?_) fun e s' h => fin _ _ h
  cases f with
  | done f => exact fin _ _ h
  | again c' => exact ⟨h.1, codeAny_mono h.2 fun r s' h => fin r s' h⟩
theorem code_tuple_src {Q₁ : Value → Shared → Prop} (K : KdlSrc prog w "dict" d d n P OK) (hh : A.handled = none) (hok : OK s.heap) (hn : n ≤ sizeLine)
    (h : ∀ (h' : Heap) (tk : Nat) (acc : Array Value), (∀ b o, s.heap.get? b = some o → h'.get? b = some o) → s.heap.objs.size < h'.objs.size → ItemsOf P acc n → Q₁ (.ref h'.objs.size) { s with heap := h'.push { cls := .type "tuple", data := .seq acc }, toks := tk }) :
    codeAny (model prog w) A (.call (.builtin "tuple.__new__") ⟨[.type "tuple", .ref d], []⟩) (wants Q₁ E) s := by
  refine codeAny_of_tree ?_
  show wpAny _ A.in1 (do checkBuiltinCall "tuple.__new__" ⟨[.type "tuple", .ref d], []⟩; again (.builtin "tuple.__new__" ⟨[.type "tuple", .ref d], []⟩)) _ _ s
  refine wpAny_bind (wpAny_of_eq (PySem.F.newCall_tuple_1 _) (wpAny_pure ⟨plainId_quiet PySem.F.plain_tuple_new _, codeAny_builtin PySem.F.entry_tuple_new ?_⟩))
  rw [Around.under_plainId PySem.F.plain_tuple_new _]
  have hsub := sub_tuple_self
  have hinit := init_tuple_lookup
  have hmh := madeHere_tuple
  have hT : s.TypeIs (.ref d) "dict" := K.type s hok
  have col : ∀ {E : Value → Shared → Prop} {Q : List Value → Shared → Prop}, (∀ (h' : Heap) (tk : Nat) (acc : Array Value), (∀ b o, s.heap.get? b = some o → h'.get? b = some o) → s.heap.objs.size < h'.objs.size → ItemsOf P acc n → Q acc.toList { s with heap := h', toks := tk }) → wpAny (model prog w) A.in1 (collect (.ref d)) Q E s := fun q => collect_src (A := A.in1) K hh hok hn q
  wp_walk using wpAny_typeOf hT, col
  intro h' tk acc hk hsz hacc
  show wpAny _ _ (Builtin.Tuple.tupleExact acc.toList.toArray >>= fun v => ret v) _ _ _
  unfold Builtin.Tuple.tupleExact
  refine wpAny_bind (wpAny_newObj_type ?_ (show acc.toList.toArray.size ≤ sizeLine by simp only [Array.toArray_toList]; rw [hacc.1]; exact hn))
  refine wpAny_pure ?_
  have e : acc.toList.toArray = acc := by simp
  rw [e]
  exact h h' tk acc hk hsz hacc
theorem call_tuple_src {Q : Value → Shared → Prop} (K : KdlSrc prog w "dict" d d n P OK) (hh : A.handled = none) (hok : OK s.heap) (hn : n ≤ sizeLine)
    (h : ∀ (h' : Heap) (tk : Nat) (acc : Array Value), (∀ b o, s.heap.get? b = some o → h'.get? b = some o) → s.heap.objs.size < h'.objs.size → ItemsOf P acc n → Q (.ref h'.objs.size) { s with heap := h'.push { cls := .type "tuple", data := .seq acc }, toks := tk }) :
    wpAny (model prog w) A (call (.type "tuple") [.ref d]) Q E s := by
  refine callType_codes (Q₁ := fun obj s₁ => s₁.TypeIs obj "tuple" ∧ Q obj s₁) PySem.F.called_tuple (PySem.F.typeCall_tuple_1 _) PySem.F.entry_object_init
    (code_tuple_src K hh hok hn fun h' tk acc hk hsz hacc => ⟨⟨_, Heap.get?_push_size _ rfl, rfl⟩, h h' tk acc hk hsz hacc⟩) fun obj s₁ h₁ => ?_
  exact ⟨h₁.1, PySem.F.args_object_init_2 obj _, object_init_meets PySem.F.called_tuple.init.lookup PySem.F.called_tuple.made (by decide) prog w A.in1 _ s₁ ⟨h₁.1, rfl, h₁.2⟩⟩
end
end Dt
namespace Dw
open En PySem PySem.Spec PyProof.Rows L2 Tg LamX
section
variable {X : Cx}
theorem call_tupleD (hcalm : X.calm = true) : CallR X (.type "tuple") (fun xs H Q => ∃ (a : Addr) (kvs : List (Key × V)), xs = [.ref a] ∧ Rd H a (.dK kvs) ∧ ∀ p, H p = none → Q (.ref p) (upd H p (.tup (kvs.map fun kv => kV kv.1)))) := by
  intro pins s σ H xs us Q I r q
  obtain ⟨a, kvs, ex, hd, q⟩ := q
  subst ex
  obtain ⟨u, eu, rx⟩ := vals1 r
  subst eu
  cases rx
  obtain ⟨z, lo, vs, rel, dd⟩ := dk_rd I.hok hd
  obtain ⟨ep, hat⟩ := dd.dictAt
  have ek : (kvs.map fun kv => kV kv.1) = vs.map fun p => kV p.1 := by
    have e := congrArg (List.map kV) rel.keys
    rw [List.map_map, List.map_map] at e
    exact e
  have hn : vs.length ≤ sizeLine := by rw [← rel.length]; exact z
  refine Dt.call_tuple_src (PySem.W.kdl_dict (knd := mixKind X.prog X.w) (kvs := vs) (ep := ep) lo) (I.ok.hd hcalm) hat hn fun h' tk acc hk hsz0 hacc => ?_
  have hv : Vals (vs.map fun p => kV p.1) acc.toList := keys_at (by rw [Array.length_toList]; exact hacc.1) fun j v e => hacc.2 j v (by rw [← Array.getElem?_toList]; exact e)
  have hsz : s.heap.objs.size ≤ h'.objs.size := Nat.le_of_lt hsz0
  refine ⟨.ref h'.objs.size, upd H h'.objs.size (.tup (kvs.map fun kv => kV kv.1)), I.laid (t' := tk) (fun b o e => Heap.get?_push_of_some _ (hk b o e)) hsz
    (show ObjOk X.prog X.w _ _ _ (.tup (kvs.map fun kv => kV kv.1)) from ⟨by rw [List.length_map]; exact z, acc.toList, by rw [ek]; exact hv, by rw [Array.toArray_toList]; exact ⟨_, Heap.get?_push_size _ rfl, rfl, _, rfl⟩⟩), rfl, q _ (I.hok.fresh hsz)⟩
def RTupleD : DL := fun ds K => on1 ds fun d => isM d fun kvs => K (.tuple (kvs.map fun p => .str p.1))
theorem dTupleD (hc : X.calm = true) : CallR X (.type "tuple") (cD RTupleD) := CallR.of (call_tupleD hc) fun x H Q q => by
  obtain ⟨ds, K, r, q, k⟩ := q
  obtain ⟨d, rfl, kvs, rfl, q1⟩ := on1_go q
  obtain ⟨x, rfl, r1⟩ := rpL1 r
  obtain ⟨a, o, ks, rfl, ha, pr⟩ := rp_dict r1
  refine ⟨a, ks, rfl, .inr ⟨o, ha⟩, fun p np => k _ _ _ q1 (same_new np) (Rp.tup upd_same ?_)⟩
  have e := congrArg (List.map kV) (pair_keys pr)
  rw [List.map_map, List.map_map] at e
  have e2 : ks.map (fun kv => kV kv.1) = (kvs.map (·.1)).map V.str := e
  rw [e2, show (kvs.map fun p => PyData.str p.1) = (kvs.map (·.1)).map PyData.str by rw [List.map_map]; rfl]
  exact rpL_strs_of
end
end Dw
end
section
set_option Elab.async false
set_option linter.all false
set_option maxRecDepth 100000
set_option maxHeartbeats 4000000
/-! Tg, part Zy: the end of a law whose head is one kernel run and which makes lambdas. -/
namespace Hy
open PySem PySem.Spec PyProof.Rows L2 Tg
def isRefB (c : Addr) : Value → Bool
  | .ref b => b == c
  | _ => false
/-- the function at a has its code object at c -/
def fcK (K : PySem.W.Frag) (a c : Addr) : Bool := match K.lookup a with
  | some ⟨_, _, .func fd, _⟩ => isRefB c fd.code
  | _ => false
theorem funC_of {K : PySem.W.Frag} {x q : Str} {st : Stmt} {f c : Addr} {fd : FuncData} (F : Fun K x q st f fd) (h : fcK K f c = true) : FunC K x q st f fd c := by
  obtain ⟨oc, od, kV, doc, pm, an, cdv, ct, osl, e, lk, hc⟩ := F.ex
  unfold fcK at h
  rw [lk] at h
  subst e
  have h' : isRefB c cdv = true := h
  cases cdv with
  | ref b =>
    have e : b = c := by simpa [isRefB] using h'
    subst e
    exact ⟨⟨oc, od, kV, doc, pm, an, ct, osl, rfl, lk, hc⟩⟩
  | _ => cases h'
end Hy
namespace Tg
open PySem PySem.Spec PyProof.Rows L2
/-- the goal that head_any leaves, where lambdas are made; what is known is told by facts -/
theorem walkGT2 {l : PySem.W.OpenLaw} {n k : Nat} {q : Program} {loose : List Str} {XP : (Str → Option Value) → Heap → Prop} {YP : World → Heap → Prop} {d : DefRec} {CX : World → CXT} {x : Str}
    (hn : l.most = some n) (hz : n ≤ sizeLine) (hdf : d.params.defaults = []) (room : Room k callerA)
    (F : ∀ (w : World) (mg : Str → Option Value) (fa : Addr) (h : Heap), YP w h → h.Ns mainGlobals mg → mg d.name = some (.ref fa) → ∃ K : PySem.W.Frag, K.In h ∧ AtGT l w K (CX w) k n x mg fa h)
    (noX : ∀ (w : World) (H : Hp) (s : Shared) (e : Value) (s' : Shared), CX w [] H s (fun _ _ _ => False) e s' → False) :
    PySem.W.WalkO q loose XP YP l.row.toRowW d [] (fun f vs => PySem.call f vs) := by
  apply Att.attach_callB hn hdf
  intro w s₀ s₁ mg mb fa o pm cd doc a vs ns G Y ho hd hcd hmg hobj hints hlen hbits hg
  obtain ⟨K, inK, fd, cs, sp, t1, t2, t3, bnd, hsp, hF⟩ := F w mg fa _ Y G.T.g hmg
  exact lawGT inK G.T.g G.T.b G.T.builtins G.T.nolimit hg t1 t2 t3 G.T.bmain hobj hints (Nat.le_trans hlen hz) room hF bnd (fun H hT hS => hsp H a ns hlen hT hS) fun H e s' => noX w H s₁ e s'
end Tg
end
section
--@@ genb
set_option Elab.async false
set_option linter.all false
set_option maxRecDepth 100000
set_option maxHeartbeats 4000000
namespace Bk
open PySem PySem.Spec PyProof.Rows L2 Tg Dw
def top (i : Nat) : Stmt := PySem.Challenge.pw_tagless_k03_names_and_rings.main.body.getD i (.Pass ⟨0, 0, 0, 0⟩)
abbrev s_is_integer : Stmt := top 12
abbrev s_is_between : Stmt := top 13
abbrev s_is_name : Stmt := top 14
abbrev s_rows_by_field : Stmt := top 29
abbrev s_members_by : Stmt := top 34
abbrev s_has_ring : Stmt := top 35
abbrev s_number_in : Stmt := top 50
abbrev s_are_names : Stmt := top 51
abbrev s_list_form : Stmt := top 52
abbrev s_int_form : Stmt := top 53
abbrev s_flat_form : Stmt := top 54
abbrev s_words_in : Stmt := top 55
abbrev s_deeper_rows : Stmt := top 56
abbrev s_form_in : Stmt := top 57
abbrev s_kinds_told : Stmt := top 58
abbrev s_is_line_kind : Stmt := top 59
abbrev s_check_named : Stmt := top 60
abbrev s_forms_in : Stmt := top 61
abbrev s_Book___init__ : Stmt := Hy.inCls (top 97) 0
abbrev s_Book_names : Stmt := Hy.inCls (top 97) 9
abbrev s__law_pot_of : Stmt := top 99
abbrev s__law_take : Stmt := top 100
abbrev s__law_of : Stmt := top 101
abbrev s__law_unlike : Stmt := top 102
abbrev s__law_plain : Stmt := top 103
abbrev s__law_record : Stmt := top 104
abbrev s__law_list : Stmt := top 105
abbrev s__law_tagged : Stmt := top 106
abbrev s__law_lore : Stmt := top 107
abbrev s__law_kind_lines : Stmt := top 108
abbrev s__law_page : Stmt := top 109
abbrev s__law_heard : Stmt := top 110
abbrev s__law_bent_lore : Stmt := top 111
abbrev s__law_is_line : Stmt := top 112
abbrev s__law_behind : Stmt := top 113
abbrev s__law_due : Stmt := top 114
abbrev s__law_right : Stmt := top 115
abbrev s_law : Stmt := top 116
theorem sc_is_integer : FnScope ["value"] ["value"] (defScope s_is_integer) := ⟨rfl, rfl, rfl, by decide +kernel, rfl, by decide +kernel, by decide +kernel⟩
theorem sc_is_between : FnScope ["value", "low", "high"] ["value", "low", "high"] (defScope s_is_between) := ⟨rfl, rfl, rfl, by decide +kernel, rfl, by decide +kernel, by decide +kernel⟩
theorem sc_is_name : FnScope ["value", "letter"] ["value"] (defScope s_is_name) := ⟨rfl, rfl, rfl, by decide +kernel, rfl, by decide +kernel, by decide +kernel⟩
theorem sc_rows_by_field : FnScope ["form", "field", "name", "is_wanted"] ["form"] (defScope s_rows_by_field) := ⟨rfl, rfl, rfl, by decide +kernel, rfl, by decide +kernel, by decide +kernel⟩
theorem sc_members_by : FnScope ["forms", "name"] ["forms", "name"] (defScope s_members_by) := ⟨rfl, rfl, rfl, by decide +kernel, rfl, by decide +kernel, by decide +kernel⟩
theorem sc_has_ring : FnScope ["forms", "name", "met", "turn", "one", "member"] ["forms", "name"] (defScope s_has_ring) := ⟨rfl, rfl, rfl, by decide +kernel, rfl, by decide +kernel, by decide +kernel⟩
theorem sc_number_in : FnScope ["word", "digits", "sign"] ["word"] (defScope s_number_in) := ⟨rfl, rfl, rfl, by decide +kernel, rfl, by decide +kernel, by decide +kernel⟩
theorem sc_are_names : FnScope ["values", "value"] ["values"] (defScope s_are_names) := ⟨rfl, rfl, rfl, by decide +kernel, rfl, by decide +kernel, by decide +kernel⟩
theorem sc_list_form : FnScope ["item", "low", "high", "least", "most"] ["item", "low", "high"] (defScope s_list_form) := ⟨rfl, rfl, rfl, by decide +kernel, rfl, by decide +kernel, by decide +kernel⟩
theorem sc_int_form : FnScope ["low", "high", "least", "most"] ["low", "high"] (defScope s_int_form) := ⟨rfl, rfl, rfl, by decide +kernel, rfl, by decide +kernel, by decide +kernel⟩
theorem sc_flat_form : FnScope ["words", "head", "some"] ["words"] (defScope s_flat_form) := ⟨rfl, rfl, rfl, by decide +kernel, rfl, by decide +kernel, by decide +kernel⟩
theorem sc_words_in : FnScope ["number", "line", "found"] ["number", "line"] (defScope s_words_in) := ⟨rfl, rfl, rfl, by decide +kernel, rfl, by decide +kernel, by decide +kernel⟩
theorem sc_deeper_rows : FnScope ["number", "deeper", "least", "most", "found", "at", "line", "words", "row"] ["number", "deeper", "least", "most"] (defScope s_deeper_rows) := ⟨rfl, rfl, rfl, by decide +kernel, rfl, by decide +kernel, by decide +kernel⟩
theorem sc_form_in : FnScope ["number", "words", "deeper", "head", "rest", "rows", "form", "row"] ["number", "words", "deeper"] (defScope s_form_in) := ⟨rfl, rfl, rfl, by decide +kernel, rfl, by decide +kernel, by decide +kernel⟩
theorem sc_kinds_told : FnScope ["lines", "heads", "found", "at", "end", "words", "line", "row"] ["lines"] (defScope s_kinds_told) := ⟨rfl, rfl, rfl, by decide +kernel, rfl, by decide +kernel, by decide +kernel⟩
theorem sc_is_line_kind : FnScope ["forms", "name", "field"] ["forms", "name", "field"] (defScope s_is_line_kind) := ⟨rfl, rfl, rfl, by decide +kernel, rfl, by decide +kernel, by decide +kernel⟩
theorem sc_check_named : FnScope ["forms", "form", "number", "at", "field", "name", "is_wanted", "word", "member"] ["forms", "form", "number"] (defScope s_check_named) := ⟨rfl, rfl, rfl, by decide +kernel, rfl, by decide +kernel, by decide +kernel⟩
theorem sc_forms_in : FnScope ["text", "rows", "forms", "name", "form", "number"] ["text"] (defScope s_forms_in) := ⟨rfl, rfl, rfl, by decide +kernel, rfl, by decide +kernel, by decide +kernel⟩
theorem sc_Book___init__ : FnScope ["self", "text"] ["self", "text"] (defScope s_Book___init__) := ⟨rfl, rfl, rfl, by decide +kernel, rfl, by decide +kernel, by decide +kernel⟩
theorem sc_Book_names : FnScope ["self"] ["self"] (defScope s_Book_names) := ⟨rfl, rfl, rfl, by decide +kernel, rfl, by decide +kernel, by decide +kernel⟩
theorem sc__law_pot_of : FnScope ["_law_script", "_law_k", "_law_cell", "_law_own"] ["_law_script", "_law_k"] (defScope s__law_pot_of) := ⟨rfl, rfl, rfl, by decide +kernel, rfl, by decide +kernel, by decide +kernel⟩
theorem sc__law_take : FnScope ["_law_pot", "_law_upto", "_law_digit", "_law_prime", "_law_stirred"] ["_law_pot", "_law_upto"] (defScope s__law_take) := ⟨rfl, rfl, rfl, by decide +kernel, rfl, by decide +kernel, by decide +kernel⟩
theorem sc__law_of : FnScope ["_law_pot", "_law_some"] ["_law_pot", "_law_some"] (defScope s__law_of) := ⟨rfl, rfl, rfl, by decide +kernel, rfl, by decide +kernel, by decide +kernel⟩
theorem sc__law_unlike : FnScope ["_law_pot", "_law_some", "_law_many", "_law_left", "_law_found", "_law_turn", "_law_at"] ["_law_pot", "_law_some", "_law_many"] (defScope s__law_unlike) := ⟨rfl, rfl, rfl, by decide +kernel, rfl, by decide +kernel, by decide +kernel⟩
theorem sc__law_plain : FnScope ["_law_pot", "_law_pick", "_law_low"] ["_law_pot"] (defScope s__law_plain) := ⟨rfl, rfl, rfl, by decide +kernel, rfl, by decide +kernel, by decide +kernel⟩
theorem sc__law_record : FnScope ["_law_pot", "_law_names", "_law_fields", "_law_is_open", "_law_rows", "_law_field", "_law_pick"] ["_law_pot", "_law_names", "_law_fields"] (defScope s__law_record) := ⟨rfl, rfl, rfl, by decide +kernel, rfl, by decide +kernel, by decide +kernel⟩
theorem sc__law_list : FnScope ["_law_pot", "_law_names", "_law_item", "_law_low", "_law_high"] ["_law_pot", "_law_names"] (defScope s__law_list) := ⟨rfl, rfl, rfl, by decide +kernel, rfl, by decide +kernel, by decide +kernel⟩
theorem sc__law_tagged : FnScope ["_law_pot", "_law_lore_here", "_law_records", "_law_field", "_law_some", "_law_words", "_law_name", "_law_word", "_law_row"] ["_law_pot", "_law_lore_here", "_law_records"] (defScope s__law_tagged) := ⟨rfl, rfl, rfl, by decide +kernel, rfl, by decide +kernel, by decide +kernel⟩
theorem sc__law_lore : FnScope ["_law_pot", "_law_pool", "_law_many", "_law_names", "_law_lore_here", "_law_groups", "_law_part_many", "_law_plain_here", "_law_records", "_law_lists", "_law_tagged_here", "_law_eithers", "_law_every", "_law_name", "_law_at", "_law_some", "_law_rows", "_law_turn", "_law_one"] ["_law_pot"] (defScope s__law_lore) := ⟨rfl, rfl, rfl, by decide +kernel, rfl, by decide +kernel, by decide +kernel⟩
theorem sc__law_kind_lines : FnScope ["_law_name", "_law_form", "_law_rows", "_law_field", "_law_kind", "_law_is_wanted", "_law_row"] ["_law_name", "_law_form"] (defScope s__law_kind_lines) := ⟨rfl, rfl, rfl, by decide +kernel, rfl, by decide +kernel, by decide +kernel⟩
theorem sc__law_page : FnScope ["_law_lore_here", "_law_lines", "_law_name", "_law_form"] ["_law_lore_here"] (defScope s__law_page) := ⟨rfl, rfl, rfl, by decide +kernel, rfl, by decide +kernel, by decide +kernel⟩
theorem sc__law_heard : FnScope ["_law_call", "_law_caught", "_law_back", "error", "_law_marks", "_law_words"] ["_law_call"] (defScope s__law_heard) := ⟨rfl, rfl, rfl, by decide +kernel, rfl, by decide +kernel, by decide +kernel⟩
theorem sc__law_bent_lore : FnScope ["_law_pot", "_law_lore_here", "_law_names", "_law_name", "_law_form", "_law_other", "_law_found", "_law_at", "_law_row"] ["_law_pot", "_law_lore_here"] (defScope s__law_bent_lore) := ⟨rfl, rfl, rfl, by decide +kernel, rfl, by decide +kernel, by decide +kernel⟩
theorem sc__law_is_line : FnScope ["_law_lore_here", "_law_kind", "_law_field", "_law_row"] ["_law_lore_here", "_law_kind", "_law_field"] (defScope s__law_is_line) := ⟨rfl, rfl, rfl, by decide +kernel, rfl, by decide +kernel, by decide +kernel⟩
theorem sc__law_behind : FnScope ["_law_lore_here", "_law_name", "_law_found", "_law_waiting", "_law_form", "_law_member"] ["_law_lore_here", "_law_name"] (defScope s__law_behind) := ⟨rfl, rfl, rfl, by decide +kernel, rfl, by decide +kernel, by decide +kernel⟩
theorem sc__law_due : FnScope ["_law_lore_here", "_law_line", "_law_firsts", "_law_name", "_law_form", "_law_bad", "_law_rings", "_law_at", "_law_row", "_law_m"] ["_law_lore_here"] (defScope s__law_due) := ⟨rfl, rfl, rfl, by decide +kernel, rfl, by decide +kernel, by decide +kernel⟩
theorem sc__law_right : FnScope ["_law_pot", "_law_lore_here", "_law_turn", "_law_page_here", "_law_due_here", "_law_heard_here"] ["_law_pot"] (defScope s__law_right) := ⟨rfl, rfl, rfl, by decide +kernel, rfl, by decide +kernel, by decide +kernel⟩
theorem sc_law : FnScope ["_law_script", "_law_k", "_law_pot", "_law_turn"] ["_law_script"] (defScope s_law) := ⟨rfl, rfl, rfl, by decide +kernel, rfl, by decide +kernel, by decide +kernel⟩
structure Tx (P : Program) (K : PySem.W.Frag) (mg : Str → Option Value) where
  D : Addr
  fI : Addr
  fdI : FuncData
  ini : IniT P K mg fI D fdI
  b_ini : Binds K fdI ["self", "value"] []
  m_TaglessError : mg "TaglessError" = some (.ref D)
  C_BadBook : Addr
  e_BadBook : ErrC K fI D C_BadBook
  m_BadBook : mg "BadBook" = some (.ref C_BadBook)
  x_BadBook : PySem.W.exmOne K (.ref C_BadBook) (.ref D) = some true
  v_BadBook : PySem.W.kitOne K (.ref C_BadBook) (.type "ValueError") = some true
  C_Unnamed : Addr
  e_Unnamed : ErrC K fI D C_Unnamed
  m_Unnamed : mg "Unnamed" = some (.ref C_Unnamed)
  x_Unnamed : PySem.W.exmOne K (.ref C_Unnamed) (.ref D) = some true
  v_Unnamed : PySem.W.kitOne K (.ref C_Unnamed) (.type "ValueError") = some true
  C_Ring : Addr
  e_Ring : ErrC K fI D C_Ring
  m_Ring : mg "Ring" = some (.ref C_Ring)
  x_Ring : PySem.W.exmOne K (.ref C_Ring) (.ref D) = some true
  v_Ring : PySem.W.kitOne K (.ref C_Ring) (.type "ValueError") = some true
  k_BadBook_BadBook : PySem.W.kitOne K (.ref C_BadBook) (.ref C_BadBook) = some true
  k_BadBook_Unnamed : PySem.W.kitOne K (.ref C_BadBook) (.ref C_Unnamed) = some false
  k_BadBook_Ring : PySem.W.kitOne K (.ref C_BadBook) (.ref C_Ring) = some false
  k_Unnamed_BadBook : PySem.W.kitOne K (.ref C_Unnamed) (.ref C_BadBook) = some false
  k_Unnamed_Unnamed : PySem.W.kitOne K (.ref C_Unnamed) (.ref C_Unnamed) = some true
  k_Unnamed_Ring : PySem.W.kitOne K (.ref C_Unnamed) (.ref C_Ring) = some false
  k_Ring_BadBook : PySem.W.kitOne K (.ref C_Ring) (.ref C_BadBook) = some false
  k_Ring_Unnamed : PySem.W.kitOne K (.ref C_Ring) (.ref C_Unnamed) = some false
  k_Ring_Ring : PySem.W.kitOne K (.ref C_Ring) (.ref C_Ring) = some true
  t_MOST_LETTERS : Tok
  m_MOST_LETTERS : mg "MOST_LETTERS" = some (.int 8 t_MOST_LETTERS)
  t_INT : Tok
  m_INT : mg "INT" = some (.str "int" t_INT)
  t_WORD : Tok
  m_WORD : mg "WORD" = some (.str "word" t_WORD)
  t_LIST : Tok
  m_LIST : mg "LIST" = some (.str "list" t_LIST)
  t_RECORD : Tok
  m_RECORD : mg "RECORD" = some (.str "record" t_RECORD)
  t_EITHER : Tok
  m_EITHER : mg "EITHER" = some (.str "either" t_EITHER)
  t_TAGGED : Tok
  m_TAGGED : mg "TAGGED" = some (.str "tagged" t_TAGGED)
  t_MOST_LIST : Tok
  m_MOST_LIST : mg "MOST_LIST" = some (.int 4 t_MOST_LIST)
  t_BLANK : Tok
  m_BLANK : mg "BLANK" = some (.str " " t_BLANK)
  t_FEED : Tok
  m_FEED : mg "FEED" = some (.str "\n" t_FEED)
  t_DEEPER : Tok
  m_DEEPER : mg "DEEPER" = some (.str "  " t_DEEPER)
  t_OPEN : Tok
  m_OPEN : mg "OPEN" = some (.str "open" t_OPEN)
  t_MAYBE : Tok
  m_MAYBE : mg "MAYBE" = some (.str "?" t_MAYBE)
  t_ENDLESS : Tok
  m_ENDLESS : mg "ENDLESS" = some (.str "*" t_ENDLESS)
  t_MINUS : Tok
  m_MINUS : mg "MINUS" = some (.str "-" t_MINUS)
  t_DIGITS : Tok
  m_DIGITS : mg "DIGITS" = some (.str "0123456789" t_DIGITS)
  t_MOST_DIGITS : Tok
  m_MOST_DIGITS : mg "MOST_DIGITS" = some (.int 9 t_MOST_DIGITS)
  t_LEAST_MEMBERS : Tok
  m_LEAST_MEMBERS : mg "LEAST_MEMBERS" = some (.int 2 t_LEAST_MEMBERS)
  t_PAIR : Tok
  m_PAIR : mg "PAIR" = some (.int 2 t_PAIR)
  t_TRIPLE : Tok
  m_TRIPLE : mg "TRIPLE" = some (.int 3 t_TRIPLE)
  n_ValueError : mg "ValueError" = none
  n_abs : mg "abs" = none
  n_all : mg "all" = none
  n_bool : mg "bool" = none
  n_dict : mg "dict" = none
  n_enumerate : mg "enumerate" = none
  n_int : mg "int" = none
  n_isinstance : mg "isinstance" = none
  n_len : mg "len" = none
  n_list : mg "list" = none
  n_max : mg "max" = none
  n_min : mg "min" = none
  n_property : mg "property" = none
  n_range : mg "range" = none
  n_repr : mg "repr" = none
  n_set : mg "set" = none
  n_sorted : mg "sorted" = none
  n_str : mg "str" = none
  n_sum : mg "sum" = none
  n_tuple : mg "tuple" = none
  n_zip : mg "zip" = none
  C_Book : Addr
  m_Book : mg "Book" = some (.ref C_Book)
  cl_Book : Cls K C_Book
  no_Book_own_forms : NoAttr K C_Book "own_forms"
  no_Book_own_text : NoAttr K C_Book "own_text"
  no_Book_own_names : NoAttr K C_Book "own_names"
  a_is_integer : Addr
  fd_is_integer : FuncData
  F_is_integer : Fun K "is_integer" "is_integer" s_is_integer a_is_integer fd_is_integer
  b_is_integer : Binds K fd_is_integer ["value"] []
  m_is_integer : mg "is_integer" = some (.ref a_is_integer)
  a_is_between : Addr
  fd_is_between : FuncData
  F_is_between : Fun K "is_between" "is_between" s_is_between a_is_between fd_is_between
  b_is_between : Binds K fd_is_between ["value", "low", "high"] []
  m_is_between : mg "is_between" = some (.ref a_is_between)
  a_is_name : Addr
  fd_is_name : FuncData
  F_is_name : Fun K "is_name" "is_name" s_is_name a_is_name fd_is_name
  b_is_name : Binds K fd_is_name ["value"] []
  m_is_name : mg "is_name" = some (.ref a_is_name)
  a_rows_by_field : Addr
  fd_rows_by_field : FuncData
  F_rows_by_field : Fun K "rows_by_field" "rows_by_field" s_rows_by_field a_rows_by_field fd_rows_by_field
  b_rows_by_field : Binds K fd_rows_by_field ["form"] []
  m_rows_by_field : mg "rows_by_field" = some (.ref a_rows_by_field)
  a_members_by : Addr
  fd_members_by : FuncData
  F_members_by : Fun K "members_by" "members_by" s_members_by a_members_by fd_members_by
  b_members_by : Binds K fd_members_by ["forms", "name"] []
  m_members_by : mg "members_by" = some (.ref a_members_by)
  a_has_ring : Addr
  fd_has_ring : FuncData
  F_has_ring : Fun K "has_ring" "has_ring" s_has_ring a_has_ring fd_has_ring
  b_has_ring : Binds K fd_has_ring ["forms", "name"] []
  m_has_ring : mg "has_ring" = some (.ref a_has_ring)
  a_number_in : Addr
  fd_number_in : FuncData
  F_number_in : Fun K "number_in" "number_in" s_number_in a_number_in fd_number_in
  b_number_in : Binds K fd_number_in ["word"] []
  m_number_in : mg "number_in" = some (.ref a_number_in)
  a_are_names : Addr
  fd_are_names : FuncData
  F_are_names : Fun K "are_names" "are_names" s_are_names a_are_names fd_are_names
  b_are_names : Binds K fd_are_names ["values"] []
  m_are_names : mg "are_names" = some (.ref a_are_names)
  a_list_form : Addr
  fd_list_form : FuncData
  F_list_form : Fun K "list_form" "list_form" s_list_form a_list_form fd_list_form
  b_list_form : Binds K fd_list_form ["item", "low", "high"] []
  m_list_form : mg "list_form" = some (.ref a_list_form)
  a_int_form : Addr
  fd_int_form : FuncData
  F_int_form : Fun K "int_form" "int_form" s_int_form a_int_form fd_int_form
  b_int_form : Binds K fd_int_form ["low", "high"] []
  m_int_form : mg "int_form" = some (.ref a_int_form)
  a_flat_form : Addr
  fd_flat_form : FuncData
  F_flat_form : Fun K "flat_form" "flat_form" s_flat_form a_flat_form fd_flat_form
  b_flat_form : Binds K fd_flat_form ["words"] []
  m_flat_form : mg "flat_form" = some (.ref a_flat_form)
  a_words_in : Addr
  fd_words_in : FuncData
  F_words_in : Fun K "words_in" "words_in" s_words_in a_words_in fd_words_in
  b_words_in : Binds K fd_words_in ["number", "line"] []
  m_words_in : mg "words_in" = some (.ref a_words_in)
  a_deeper_rows : Addr
  fd_deeper_rows : FuncData
  F_deeper_rows : Fun K "deeper_rows" "deeper_rows" s_deeper_rows a_deeper_rows fd_deeper_rows
  b_deeper_rows : Binds K fd_deeper_rows ["number", "deeper", "least", "most"] []
  m_deeper_rows : mg "deeper_rows" = some (.ref a_deeper_rows)
  a_form_in : Addr
  fd_form_in : FuncData
  F_form_in : Fun K "form_in" "form_in" s_form_in a_form_in fd_form_in
  b_form_in : Binds K fd_form_in ["number", "words", "deeper"] []
  m_form_in : mg "form_in" = some (.ref a_form_in)
  a_kinds_told : Addr
  fd_kinds_told : FuncData
  F_kinds_told : Fun K "kinds_told" "kinds_told" s_kinds_told a_kinds_told fd_kinds_told
  b_kinds_told : Binds K fd_kinds_told ["lines"] []
  m_kinds_told : mg "kinds_told" = some (.ref a_kinds_told)
  a_is_line_kind : Addr
  fd_is_line_kind : FuncData
  F_is_line_kind : Fun K "is_line_kind" "is_line_kind" s_is_line_kind a_is_line_kind fd_is_line_kind
  b_is_line_kind : Binds K fd_is_line_kind ["forms", "name", "field"] []
  m_is_line_kind : mg "is_line_kind" = some (.ref a_is_line_kind)
  a_check_named : Addr
  fd_check_named : FuncData
  F_check_named : Fun K "check_named" "check_named" s_check_named a_check_named fd_check_named
  b_check_named : Binds K fd_check_named ["forms", "form", "number"] []
  m_check_named : mg "check_named" = some (.ref a_check_named)
  a_forms_in : Addr
  fd_forms_in : FuncData
  F_forms_in : Fun K "forms_in" "forms_in" s_forms_in a_forms_in fd_forms_in
  b_forms_in : Binds K fd_forms_in ["text"] []
  m_forms_in : mg "forms_in" = some (.ref a_forms_in)
  a_Book___init__ : Addr
  fd_Book___init__ : FuncData
  F_Book___init__ : Fun K "__init__" "Book.__init__" s_Book___init__ a_Book___init__ fd_Book___init__
  b_Book___init__ : Binds K fd_Book___init__ ["self", "text"] []
  M_Book___init__ : Meth K C_Book "__init__" a_Book___init__
  mk_Book : Mk K C_Book a_Book___init__
  a_Book_names : Addr
  fd_Book_names : FuncData
  F_Book_names : Fun K "names" "Book.names" s_Book_names a_Book_names fd_Book_names
  b_Book_names : Binds K fd_Book_names ["self"] []
  p_Book_names : Addr
  P_Book_names : PropOf K C_Book "names" p_Book_names a_Book_names
  a__law_pot_of : Addr
  fd__law_pot_of : FuncData
  F__law_pot_of : Fun K "_law_pot_of" "_law_pot_of" s__law_pot_of a__law_pot_of fd__law_pot_of
  b__law_pot_of : Binds K fd__law_pot_of ["_law_script", "_law_k"] []
  m__law_pot_of : mg "_law_pot_of" = some (.ref a__law_pot_of)
  a__law_take : Addr
  fd__law_take : FuncData
  F__law_take : Fun K "_law_take" "_law_take" s__law_take a__law_take fd__law_take
  b__law_take : Binds K fd__law_take ["_law_pot", "_law_upto"] []
  m__law_take : mg "_law_take" = some (.ref a__law_take)
  a__law_of : Addr
  fd__law_of : FuncData
  F__law_of : Fun K "_law_of" "_law_of" s__law_of a__law_of fd__law_of
  b__law_of : Binds K fd__law_of ["_law_pot", "_law_some"] []
  m__law_of : mg "_law_of" = some (.ref a__law_of)
  a__law_unlike : Addr
  fd__law_unlike : FuncData
  F__law_unlike : Fun K "_law_unlike" "_law_unlike" s__law_unlike a__law_unlike fd__law_unlike
  b__law_unlike : Binds K fd__law_unlike ["_law_pot", "_law_some", "_law_many"] []
  m__law_unlike : mg "_law_unlike" = some (.ref a__law_unlike)
  a__law_plain : Addr
  fd__law_plain : FuncData
  F__law_plain : Fun K "_law_plain" "_law_plain" s__law_plain a__law_plain fd__law_plain
  b__law_plain : Binds K fd__law_plain ["_law_pot"] []
  m__law_plain : mg "_law_plain" = some (.ref a__law_plain)
  a__law_record : Addr
  fd__law_record : FuncData
  F__law_record : Fun K "_law_record" "_law_record" s__law_record a__law_record fd__law_record
  b__law_record : Binds K fd__law_record ["_law_pot", "_law_names", "_law_fields"] []
  m__law_record : mg "_law_record" = some (.ref a__law_record)
  a__law_list : Addr
  fd__law_list : FuncData
  F__law_list : Fun K "_law_list" "_law_list" s__law_list a__law_list fd__law_list
  b__law_list : Binds K fd__law_list ["_law_pot", "_law_names"] []
  m__law_list : mg "_law_list" = some (.ref a__law_list)
  a__law_tagged : Addr
  fd__law_tagged : FuncData
  F__law_tagged : Fun K "_law_tagged" "_law_tagged" s__law_tagged a__law_tagged fd__law_tagged
  b__law_tagged : Binds K fd__law_tagged ["_law_pot", "_law_lore_here", "_law_records"] []
  m__law_tagged : mg "_law_tagged" = some (.ref a__law_tagged)
  a__law_lore : Addr
  fd__law_lore : FuncData
  F__law_lore : Fun K "_law_lore" "_law_lore" s__law_lore a__law_lore fd__law_lore
  b__law_lore : Binds K fd__law_lore ["_law_pot"] []
  m__law_lore : mg "_law_lore" = some (.ref a__law_lore)
  a__law_kind_lines : Addr
  fd__law_kind_lines : FuncData
  F__law_kind_lines : Fun K "_law_kind_lines" "_law_kind_lines" s__law_kind_lines a__law_kind_lines fd__law_kind_lines
  b__law_kind_lines : Binds K fd__law_kind_lines ["_law_name", "_law_form"] []
  m__law_kind_lines : mg "_law_kind_lines" = some (.ref a__law_kind_lines)
  a__law_page : Addr
  fd__law_page : FuncData
  F__law_page : Fun K "_law_page" "_law_page" s__law_page a__law_page fd__law_page
  b__law_page : Binds K fd__law_page ["_law_lore_here"] []
  m__law_page : mg "_law_page" = some (.ref a__law_page)
  a__law_heard : Addr
  fd__law_heard : FuncData
  F__law_heard : Fun K "_law_heard" "_law_heard" s__law_heard a__law_heard fd__law_heard
  b__law_heard : Binds K fd__law_heard ["_law_call"] []
  m__law_heard : mg "_law_heard" = some (.ref a__law_heard)
  a__law_bent_lore : Addr
  fd__law_bent_lore : FuncData
  F__law_bent_lore : Fun K "_law_bent_lore" "_law_bent_lore" s__law_bent_lore a__law_bent_lore fd__law_bent_lore
  b__law_bent_lore : Binds K fd__law_bent_lore ["_law_pot", "_law_lore_here"] []
  m__law_bent_lore : mg "_law_bent_lore" = some (.ref a__law_bent_lore)
  a__law_is_line : Addr
  fd__law_is_line : FuncData
  F__law_is_line : Fun K "_law_is_line" "_law_is_line" s__law_is_line a__law_is_line fd__law_is_line
  b__law_is_line : Binds K fd__law_is_line ["_law_lore_here", "_law_kind", "_law_field"] []
  m__law_is_line : mg "_law_is_line" = some (.ref a__law_is_line)
  a__law_behind : Addr
  fd__law_behind : FuncData
  F__law_behind : Fun K "_law_behind" "_law_behind" s__law_behind a__law_behind fd__law_behind
  b__law_behind : Binds K fd__law_behind ["_law_lore_here", "_law_name"] []
  m__law_behind : mg "_law_behind" = some (.ref a__law_behind)
  a__law_due : Addr
  fd__law_due : FuncData
  F__law_due : Fun K "_law_due" "_law_due" s__law_due a__law_due fd__law_due
  b__law_due : Binds K fd__law_due ["_law_lore_here"] []
  m__law_due : mg "_law_due" = some (.ref a__law_due)
  a__law_right : Addr
  fd__law_right : FuncData
  F__law_right : Fun K "_law_right" "_law_right" s__law_right a__law_right fd__law_right
  b__law_right : Binds K fd__law_right ["_law_pot"] []
  m__law_right : mg "_law_right" = some (.ref a__law_right)
  a_law : Addr
  fd_law : FuncData
  F_law : Fun K "law" "law" s_law a_law fd_law
  b_law : Binds K fd_law ["_law_script"] []
  m_law : mg "law" = some (.ref a_law)
end Bk
end
section
--@@ genb
set_option Elab.async false
set_option linter.all false
set_option maxRecDepth 100000
set_option maxHeartbeats 0
namespace Bk
open PySem PySem.Spec PyProof.Rows L2 Tg Dw Hy He
def gn0 : List (Str × Option Value) := [("TaglessError", some (.ref 33)), ("super", none), ("BadBook", some (.ref 70)), ("Unnamed", some (.ref 82)), ("Ring", some (.ref 94)), ("MOST_LETTERS", some (.int 8 348)), ("INT", some (.str "int" 393)), ("WORD", some (.str "word" 395)), ("LIST", some (.str "list" 397)), ("RECORD", some (.str "record" 399))]
def gn1 : List (Str × Option Value) := [("EITHER", some (.str "either" 401)), ("TAGGED", some (.str "tagged" 403)), ("MOST_LIST", some (.int 4 406)), ("BLANK", some (.str " " 457)), ("FEED", some (.str "\n" 459)), ("DEEPER", some (.str "  " 461)), ("OPEN", some (.str "open" 463)), ("MAYBE", some (.str "?" 465)), ("ENDLESS", some (.str "*" 467)), ("MINUS", some (.str "-" 469))]
def gn2 : List (Str × Option Value) := [("DIGITS", some (.str "0123456789" 471)), ("MOST_DIGITS", some (.int 9 473)), ("LEAST_MEMBERS", some (.int 2 481)), ("PAIR", some (.int 2 483)), ("TRIPLE", some (.int 3 485)), ("ValueError", none), ("abs", none), ("all", none), ("bool", none), ("dict", none)]
def gn3 : List (Str × Option Value) := [("enumerate", none), ("int", none), ("isinstance", none), ("len", none), ("list", none), ("max", none), ("min", none), ("property", none), ("range", none), ("repr", none)]
def gn4 : List (Str × Option Value) := [("set", none), ("sorted", none), ("str", none), ("sum", none), ("tuple", none), ("zip", none), ("Book", some (.ref 664)), ("is_integer", some (.ref 139)), ("is_between", some (.ref 146)), ("is_name", some (.ref 151))]
def gn5 : List (Str × Option Value) := [("rows_by_field", some (.ref 169)), ("members_by", some (.ref 200)), ("has_ring", some (.ref 205)), ("number_in", some (.ref 210)), ("are_names", some (.ref 215)), ("list_form", some (.ref 222)), ("int_form", some (.ref 229)), ("flat_form", some (.ref 234)), ("words_in", some (.ref 241)), ("deeper_rows", some (.ref 246))]
def gn6 : List (Str × Option Value) := [("form_in", some (.ref 251)), ("kinds_told", some (.ref 256)), ("is_line_kind", some (.ref 263)), ("check_named", some (.ref 268)), ("forms_in", some (.ref 273)), ("_law_pot_of", some (.ref 675)), ("_law_take", some (.ref 682)), ("_law_of", some (.ref 689)), ("_law_unlike", some (.ref 696)), ("_law_plain", some (.ref 703))]
def gn7 : List (Str × Option Value) := [("_law_record", some (.ref 710)), ("_law_list", some (.ref 717)), ("_law_tagged", some (.ref 722)), ("_law_lore", some (.ref 727)), ("_law_kind_lines", some (.ref 732)), ("_law_page", some (.ref 739)), ("_law_heard", some (.ref 746)), ("_law_bent_lore", some (.ref 751)), ("_law_is_line", some (.ref 756)), ("_law_behind", some (.ref 763))]
def gn8 : List (Str × Option Value) := [("_law_due", some (.ref 768)), ("_law_right", some (.ref 775)), ("law", some (.ref 780))]
def gn : List (Str × Option Value) := gn0 ++ gn1 ++ gn2 ++ gn3 ++ gn4 ++ gn5 ++ gn6 ++ gn7 ++ gn8
def df0 : List Hy.Df := [⟨139, "is_integer", "is_integer", s_is_integer⟩, ⟨146, "is_between", "is_between", s_is_between⟩, ⟨151, "is_name", "is_name", s_is_name⟩, ⟨169, "rows_by_field", "rows_by_field", s_rows_by_field⟩, ⟨200, "members_by", "members_by", s_members_by⟩, ⟨205, "has_ring", "has_ring", s_has_ring⟩, ⟨210, "number_in", "number_in", s_number_in⟩, ⟨215, "are_names", "are_names", s_are_names⟩, ⟨222, "list_form", "list_form", s_list_form⟩, ⟨229, "int_form", "int_form", s_int_form⟩]
def df1 : List Hy.Df := [⟨234, "flat_form", "flat_form", s_flat_form⟩, ⟨241, "words_in", "words_in", s_words_in⟩, ⟨246, "deeper_rows", "deeper_rows", s_deeper_rows⟩, ⟨251, "form_in", "form_in", s_form_in⟩, ⟨256, "kinds_told", "kinds_told", s_kinds_told⟩, ⟨263, "is_line_kind", "is_line_kind", s_is_line_kind⟩, ⟨268, "check_named", "check_named", s_check_named⟩, ⟨273, "forms_in", "forms_in", s_forms_in⟩, ⟨595, "__init__", "Book.__init__", s_Book___init__⟩, ⟨660, "names", "Book.names", s_Book_names⟩]
def df2 : List Hy.Df := [⟨675, "_law_pot_of", "_law_pot_of", s__law_pot_of⟩, ⟨682, "_law_take", "_law_take", s__law_take⟩, ⟨689, "_law_of", "_law_of", s__law_of⟩, ⟨696, "_law_unlike", "_law_unlike", s__law_unlike⟩, ⟨703, "_law_plain", "_law_plain", s__law_plain⟩, ⟨710, "_law_record", "_law_record", s__law_record⟩, ⟨717, "_law_list", "_law_list", s__law_list⟩, ⟨722, "_law_tagged", "_law_tagged", s__law_tagged⟩, ⟨727, "_law_lore", "_law_lore", s__law_lore⟩, ⟨732, "_law_kind_lines", "_law_kind_lines", s__law_kind_lines⟩]
def df3 : List Hy.Df := [⟨739, "_law_page", "_law_page", s__law_page⟩, ⟨746, "_law_heard", "_law_heard", s__law_heard⟩, ⟨751, "_law_bent_lore", "_law_bent_lore", s__law_bent_lore⟩, ⟨756, "_law_is_line", "_law_is_line", s__law_is_line⟩, ⟨763, "_law_behind", "_law_behind", s__law_behind⟩, ⟨768, "_law_due", "_law_due", s__law_due⟩, ⟨775, "_law_right", "_law_right", s__law_right⟩, ⟨780, "law", "law", s_law⟩]
def df : List Hy.Df := df0 ++ df1 ++ df2 ++ df3
def exs0 (K : PySem.W.Frag) : List Bool := [errB K 30 33 70, decide (PySem.W.exmOne K (.ref 70) (.ref 33) = some true), decide (PySem.W.kitOne K (.ref 70) (.type "ValueError") = some true), errB K 30 33 82, decide (PySem.W.exmOne K (.ref 82) (.ref 33) = some true), decide (PySem.W.kitOne K (.ref 82) (.type "ValueError") = some true), errB K 30 33 94, decide (PySem.W.exmOne K (.ref 94) (.ref 33) = some true)]
def exs1 (K : PySem.W.Frag) : List Bool := [decide (PySem.W.kitOne K (.ref 94) (.type "ValueError") = some true), decide (PySem.W.kitOne K (.ref 70) (.ref 70) = some true), decide (PySem.W.kitOne K (.ref 70) (.ref 82) = some false), decide (PySem.W.kitOne K (.ref 70) (.ref 94) = some false), decide (PySem.W.kitOne K (.ref 82) (.ref 70) = some false), decide (PySem.W.kitOne K (.ref 82) (.ref 82) = some true), decide (PySem.W.kitOne K (.ref 82) (.ref 94) = some false), decide (PySem.W.kitOne K (.ref 94) (.ref 70) = some false)]
def exs2 (K : PySem.W.Frag) : List Bool := [decide (PySem.W.kitOne K (.ref 94) (.ref 82) = some false), decide (PySem.W.kitOne K (.ref 94) (.ref 94) = some true), clsK K 664, noatK K 664 "own_forms", noatK K 664 "own_text", noatK K 664 "own_names", methK K 664 "__init__" 595, mkK K 664 595]
def exs3 (K : PySem.W.Frag) : List Bool := [propK K 664 "names" 661 660, fcK K 775 774]
def exs (K : PySem.W.Frag) : List Bool := exs0 K ++ exs1 K ++ exs2 K ++ exs3 K
def adr : List Addr := [3, 2, 33, 32, 30, 29, 18, 70, 69, 82, 81, 94, 93, 664, 663, 139, 138, 146, 145, 151, 150, 169, 168, 200, 199, 205, 204, 210, 209, 215, 214, 222, 221, 229, 228, 234, 233, 241, 240, 246, 245, 251, 250, 256, 255, 263, 262, 268, 267, 273, 272, 595, 594, 661, 660, 659, 675, 674, 682, 681, 689, 688, 696, 695, 703, 702, 710, 709, 717, 716, 722, 721, 727, 726, 732, 731, 739, 738, 746, 745, 751, 750, 756, 755, 763, 762, 768, 767, 775, 774, 780, 779]
def qk : Hy.Ask := { as := adr, gn := gn, df := df, ai := 30, ac := 33, file := (PySem.Challenge.rw_tagless_k03_names_and_rings.prog.main.file : Str), tf := [(774, 770)], ex := fun K => (exs K).all id }
def nm0 : List PySem.Str := [("TaglessError" : PySem.Str), ("NoKind" : PySem.Str), ("NoDocument" : PySem.Str), ("BadBook" : PySem.Str), ("Unnamed" : PySem.Str), ("Ring" : PySem.Str), ("BadForms" : PySem.Str), ("Clash" : PySem.Str), ("NoReading" : PySem.Str), ("MOST_LETTERS" : PySem.Str), ("is_integer" : PySem.Str), ("is_between" : PySem.Str)]
def nm1 : List PySem.Str := [("is_name" : PySem.Str), ("is_document" : PySem.Str), ("check_document" : PySem.Str), ("NONE" : PySem.Str), ("BOOL" : PySem.Str), ("TEXT" : PySem.Str), ("INT" : PySem.Str), ("WORD" : PySem.Str), ("LIST" : PySem.Str), ("RECORD" : PySem.Str), ("EITHER" : PySem.Str), ("TAGGED" : PySem.Str)]
def nm2 : List PySem.Str := [("BARE_WORDS" : PySem.Str), ("MOST_LIST" : PySem.Str), ("rows_by_field" : PySem.Str), ("kinds_by_word" : PySem.Str), ("fields_of" : PySem.Str), ("members_of" : PySem.Str), ("is_length" : PySem.Str), ("members_by" : PySem.Str), ("has_ring" : PySem.Str), ("BLANK" : PySem.Str), ("FEED" : PySem.Str), ("DEEPER" : PySem.Str)]
def nm3 : List PySem.Str := [("OPEN" : PySem.Str), ("MAYBE" : PySem.Str), ("ENDLESS" : PySem.Str), ("MINUS" : PySem.Str), ("DIGITS" : PySem.Str), ("MOST_DIGITS" : PySem.Str), ("GREATEST" : PySem.Str), ("LEAST_MEMBERS" : PySem.Str), ("PAIR" : PySem.Str), ("TRIPLE" : PySem.Str), ("number_in" : PySem.Str), ("are_names" : PySem.Str)]
def nm4 : List PySem.Str := [("list_form" : PySem.Str), ("int_form" : PySem.Str), ("flat_form" : PySem.Str), ("words_in" : PySem.Str), ("deeper_rows" : PySem.Str), ("form_in" : PySem.Str), ("kinds_told" : PySem.Str), ("is_line_kind" : PySem.Str), ("check_named" : PySem.Str), ("forms_in" : PySem.Str), ("lines_of" : PySem.Str), ("text_of" : PySem.Str)]
def nm5 : List PySem.Str := [("are_record_rows" : PySem.Str), ("are_tagged_rows" : PySem.Str), ("are_strings" : PySem.Str), ("is_form" : PySem.Str), ("are_forms" : PySem.Str), ("is_plain_document" : PySem.Str), ("kind_by_tag" : PySem.Str), ("untagged" : PySem.Str), ("lacking" : PySem.Str), ("extras" : PySem.Str), ("has_right_fields" : PySem.Str), ("known_parts" : PySem.Str)]
def nm6 : List PySem.Str := [("with_unions" : PySem.Str), ("is_record_by" : PySem.Str), ("is_by_parts" : PySem.Str), ("names_fit" : PySem.Str), ("fits_by" : PySem.Str), ("first_member" : PySem.Str), ("first_by" : PySem.Str), ("part_at_fault" : PySem.Str), ("check_fits" : PySem.Str), ("Kind" : PySem.Str), ("Plain" : PySem.Str), ("Listed" : PySem.Str)]
def nm7 : List PySem.Str := [("Fielded" : PySem.Str), ("Membered" : PySem.Str), ("Record" : PySem.Str), ("Either" : PySem.Str), ("Tagged" : PySem.Str), ("kind_of" : PySem.Str), ("Book" : PySem.Str), ("_law_pot_of" : PySem.Str), ("_law_take" : PySem.Str), ("_law_of" : PySem.Str), ("_law_unlike" : PySem.Str), ("_law_plain" : PySem.Str)]
def nm8 : List PySem.Str := [("_law_record" : PySem.Str), ("_law_list" : PySem.Str), ("_law_tagged" : PySem.Str), ("_law_lore" : PySem.Str), ("_law_kind_lines" : PySem.Str), ("_law_page" : PySem.Str), ("_law_heard" : PySem.Str), ("_law_bent_lore" : PySem.Str), ("_law_is_line" : PySem.Str), ("_law_behind" : PySem.Str), ("_law_due" : PySem.Str), ("_law_right" : PySem.Str)]
def nm : List PySem.Str := nm0 ++ nm1 ++ nm2 ++ nm3 ++ nm4 ++ nm5 ++ nm6 ++ nm7 ++ nm8
abbrev R : PySem.W.OpenRow := PySem.W.OpenLaw.row PySem.Challenge.rw_tagless_k03_names_and_rings
def lawAt : Nat := 116
noncomputable def tx_mk {P : Program} {K : PySem.W.Frag} {h : Heap} {mg : Str → Option Value} (X : K.In h) (G : h.Ns mainGlobals mg) (hf : (P.main.file : Str) = qk.file) (c0 : Hy.Says qk h K) (tp : (P.main.scope.names.lookup ("super" : Str)).isSome = false) : Tx P K mg :=
  have c := c0
  { D := 33,
    fI := 30,
    fdI := (Hy.ini_of (P := P) (mg := mg) c.ini (by rw [hf]; exact c.iniB) (c.free X G 1) tp).choose,
    ini := (Hy.ini_of (P := P) (mg := mg) c.ini (by rw [hf]; exact c.iniB) (c.free X G 1) tp).choose_spec.1,
    b_ini := (Hy.ini_of (P := P) (mg := mg) c.ini (by rw [hf]; exact c.iniB) (c.free X G 1) tp).choose_spec.2,
    m_TaglessError := c.nm X G 0,
    C_BadBook := 70,
    m_BadBook := c.nm X G 2,
    e_BadBook := errB_ok (Hy.ex_at (l := exs K) c.ex 0),
    x_BadBook := of_decide_eq_true (Hy.ex_at (l := exs K) c.ex 1),
    v_BadBook := of_decide_eq_true (Hy.ex_at (l := exs K) c.ex 2),
    C_Unnamed := 82,
    m_Unnamed := c.nm X G 3,
    e_Unnamed := errB_ok (Hy.ex_at (l := exs K) c.ex 3),
    x_Unnamed := of_decide_eq_true (Hy.ex_at (l := exs K) c.ex 4),
    v_Unnamed := of_decide_eq_true (Hy.ex_at (l := exs K) c.ex 5),
    C_Ring := 94,
    m_Ring := c.nm X G 4,
    e_Ring := errB_ok (Hy.ex_at (l := exs K) c.ex 6),
    x_Ring := of_decide_eq_true (Hy.ex_at (l := exs K) c.ex 7),
    v_Ring := of_decide_eq_true (Hy.ex_at (l := exs K) c.ex 8),
    k_BadBook_BadBook := of_decide_eq_true (Hy.ex_at (l := exs K) c.ex 9),
    k_BadBook_Unnamed := of_decide_eq_true (Hy.ex_at (l := exs K) c.ex 10),
    k_BadBook_Ring := of_decide_eq_true (Hy.ex_at (l := exs K) c.ex 11),
    k_Unnamed_BadBook := of_decide_eq_true (Hy.ex_at (l := exs K) c.ex 12),
    k_Unnamed_Unnamed := of_decide_eq_true (Hy.ex_at (l := exs K) c.ex 13),
    k_Unnamed_Ring := of_decide_eq_true (Hy.ex_at (l := exs K) c.ex 14),
    k_Ring_BadBook := of_decide_eq_true (Hy.ex_at (l := exs K) c.ex 15),
    k_Ring_Unnamed := of_decide_eq_true (Hy.ex_at (l := exs K) c.ex 16),
    k_Ring_Ring := of_decide_eq_true (Hy.ex_at (l := exs K) c.ex 17),
    t_MOST_LETTERS := _,
    m_MOST_LETTERS := c.nm X G 5,
    t_INT := _,
    m_INT := c.nm X G 6,
    t_WORD := _,
    m_WORD := c.nm X G 7,
    t_LIST := _,
    m_LIST := c.nm X G 8,
    t_RECORD := _,
    m_RECORD := c.nm X G 9,
    t_EITHER := _,
    m_EITHER := c.nm X G 10,
    t_TAGGED := _,
    m_TAGGED := c.nm X G 11,
    t_MOST_LIST := _,
    m_MOST_LIST := c.nm X G 12,
    t_BLANK := _,
    m_BLANK := c.nm X G 13,
    t_FEED := _,
    m_FEED := c.nm X G 14,
    t_DEEPER := _,
    m_DEEPER := c.nm X G 15,
    t_OPEN := _,
    m_OPEN := c.nm X G 16,
    t_MAYBE := _,
    m_MAYBE := c.nm X G 17,
    t_ENDLESS := _,
    m_ENDLESS := c.nm X G 18,
    t_MINUS := _,
    m_MINUS := c.nm X G 19,
    t_DIGITS := _,
    m_DIGITS := c.nm X G 20,
    t_MOST_DIGITS := _,
    m_MOST_DIGITS := c.nm X G 21,
    t_LEAST_MEMBERS := _,
    m_LEAST_MEMBERS := c.nm X G 22,
    t_PAIR := _,
    m_PAIR := c.nm X G 23,
    t_TRIPLE := _,
    m_TRIPLE := c.nm X G 24,
    n_ValueError := c.free X G 25,
    n_abs := c.free X G 26,
    n_all := c.free X G 27,
    n_bool := c.free X G 28,
    n_dict := c.free X G 29,
    n_enumerate := c.free X G 30,
    n_int := c.free X G 31,
    n_isinstance := c.free X G 32,
    n_len := c.free X G 33,
    n_list := c.free X G 34,
    n_max := c.free X G 35,
    n_min := c.free X G 36,
    n_property := c.free X G 37,
    n_range := c.free X G 38,
    n_repr := c.free X G 39,
    n_set := c.free X G 40,
    n_sorted := c.free X G 41,
    n_str := c.free X G 42,
    n_sum := c.free X G 43,
    n_tuple := c.free X G 44,
    n_zip := c.free X G 45,
    C_Book := 664,
    m_Book := c.nm X G 46,
    cl_Book := Hy.clsK_ok (Hy.ex_at (l := exs K) c.ex 18),
    no_Book_own_forms := Hy.noatK_ok (Hy.ex_at (l := exs K) c.ex 19),
    no_Book_own_text := Hy.noatK_ok (Hy.ex_at (l := exs K) c.ex 20),
    no_Book_own_names := Hy.noatK_ok (Hy.ex_at (l := exs K) c.ex 21),
    a_is_integer := 139,
    fd_is_integer := (c.fn 0).choose,
    F_is_integer := (c.fn 0).choose_spec,
    b_is_integer := Hy.binds_of (c.fn 0).choose_spec fun _ _ _ _ _ _ us hl => match us, hl with | [_], _ => rfl,
    m_is_integer := c.nm X G 47,
    a_is_between := 146,
    fd_is_between := (c.fn 1).choose,
    F_is_between := (c.fn 1).choose_spec,
    b_is_between := Hy.binds_of (c.fn 1).choose_spec fun _ _ _ _ _ _ us hl => match us, hl with | [_, _, _], _ => rfl,
    m_is_between := c.nm X G 48,
    a_is_name := 151,
    fd_is_name := (c.fn 2).choose,
    F_is_name := (c.fn 2).choose_spec,
    b_is_name := Hy.binds_of (c.fn 2).choose_spec fun _ _ _ _ _ _ us hl => match us, hl with | [_], _ => rfl,
    m_is_name := c.nm X G 49,
    a_rows_by_field := 169,
    fd_rows_by_field := (c.fn 3).choose,
    F_rows_by_field := (c.fn 3).choose_spec,
    b_rows_by_field := Hy.binds_of (c.fn 3).choose_spec fun _ _ _ _ _ _ us hl => match us, hl with | [_], _ => rfl,
    m_rows_by_field := c.nm X G 50,
    a_members_by := 200,
    fd_members_by := (c.fn 4).choose,
    F_members_by := (c.fn 4).choose_spec,
    b_members_by := Hy.binds_of (c.fn 4).choose_spec fun _ _ _ _ _ _ us hl => match us, hl with | [_, _], _ => rfl,
    m_members_by := c.nm X G 51,
    a_has_ring := 205,
    fd_has_ring := (c.fn 5).choose,
    F_has_ring := (c.fn 5).choose_spec,
    b_has_ring := Hy.binds_of (c.fn 5).choose_spec fun _ _ _ _ _ _ us hl => match us, hl with | [_, _], _ => rfl,
    m_has_ring := c.nm X G 52,
    a_number_in := 210,
    fd_number_in := (c.fn 6).choose,
    F_number_in := (c.fn 6).choose_spec,
    b_number_in := Hy.binds_of (c.fn 6).choose_spec fun _ _ _ _ _ _ us hl => match us, hl with | [_], _ => rfl,
    m_number_in := c.nm X G 53,
    a_are_names := 215,
    fd_are_names := (c.fn 7).choose,
    F_are_names := (c.fn 7).choose_spec,
    b_are_names := Hy.binds_of (c.fn 7).choose_spec fun _ _ _ _ _ _ us hl => match us, hl with | [_], _ => rfl,
    m_are_names := c.nm X G 54,
    a_list_form := 222,
    fd_list_form := (c.fn 8).choose,
    F_list_form := (c.fn 8).choose_spec,
    b_list_form := Hy.binds_of (c.fn 8).choose_spec fun _ _ _ _ _ _ us hl => match us, hl with | [_, _, _], _ => rfl,
    m_list_form := c.nm X G 55,
    a_int_form := 229,
    fd_int_form := (c.fn 9).choose,
    F_int_form := (c.fn 9).choose_spec,
    b_int_form := Hy.binds_of (c.fn 9).choose_spec fun _ _ _ _ _ _ us hl => match us, hl with | [_, _], _ => rfl,
    m_int_form := c.nm X G 56,
    a_flat_form := 234,
    fd_flat_form := (c.fn 10).choose,
    F_flat_form := (c.fn 10).choose_spec,
    b_flat_form := Hy.binds_of (c.fn 10).choose_spec fun _ _ _ _ _ _ us hl => match us, hl with | [_], _ => rfl,
    m_flat_form := c.nm X G 57,
    a_words_in := 241,
    fd_words_in := (c.fn 11).choose,
    F_words_in := (c.fn 11).choose_spec,
    b_words_in := Hy.binds_of (c.fn 11).choose_spec fun _ _ _ _ _ _ us hl => match us, hl with | [_, _], _ => rfl,
    m_words_in := c.nm X G 58,
    a_deeper_rows := 246,
    fd_deeper_rows := (c.fn 12).choose,
    F_deeper_rows := (c.fn 12).choose_spec,
    b_deeper_rows := Hy.binds_of (c.fn 12).choose_spec fun _ _ _ _ _ _ us hl => match us, hl with | [_, _, _, _], _ => rfl,
    m_deeper_rows := c.nm X G 59,
    a_form_in := 251,
    fd_form_in := (c.fn 13).choose,
    F_form_in := (c.fn 13).choose_spec,
    b_form_in := Hy.binds_of (c.fn 13).choose_spec fun _ _ _ _ _ _ us hl => match us, hl with | [_, _, _], _ => rfl,
    m_form_in := c.nm X G 60,
    a_kinds_told := 256,
    fd_kinds_told := (c.fn 14).choose,
    F_kinds_told := (c.fn 14).choose_spec,
    b_kinds_told := Hy.binds_of (c.fn 14).choose_spec fun _ _ _ _ _ _ us hl => match us, hl with | [_], _ => rfl,
    m_kinds_told := c.nm X G 61,
    a_is_line_kind := 263,
    fd_is_line_kind := (c.fn 15).choose,
    F_is_line_kind := (c.fn 15).choose_spec,
    b_is_line_kind := Hy.binds_of (c.fn 15).choose_spec fun _ _ _ _ _ _ us hl => match us, hl with | [_, _, _], _ => rfl,
    m_is_line_kind := c.nm X G 62,
    a_check_named := 268,
    fd_check_named := (c.fn 16).choose,
    F_check_named := (c.fn 16).choose_spec,
    b_check_named := Hy.binds_of (c.fn 16).choose_spec fun _ _ _ _ _ _ us hl => match us, hl with | [_, _, _], _ => rfl,
    m_check_named := c.nm X G 63,
    a_forms_in := 273,
    fd_forms_in := (c.fn 17).choose,
    F_forms_in := (c.fn 17).choose_spec,
    b_forms_in := Hy.binds_of (c.fn 17).choose_spec fun _ _ _ _ _ _ us hl => match us, hl with | [_], _ => rfl,
    m_forms_in := c.nm X G 64,
    a_Book___init__ := 595,
    fd_Book___init__ := (c.fn 18).choose,
    F_Book___init__ := (c.fn 18).choose_spec,
    b_Book___init__ := Hy.binds_of (c.fn 18).choose_spec fun _ _ _ _ _ _ us hl => match us, hl with | [_, _], _ => rfl,
    M_Book___init__ := Hy.methK_ok (Hy.ex_at (l := exs K) c.ex 22),
    mk_Book := Hy.mkK_ok (Hy.ex_at (l := exs K) c.ex 23),
    a_Book_names := 660,
    fd_Book_names := (c.fn 19).choose,
    F_Book_names := (c.fn 19).choose_spec,
    b_Book_names := Hy.binds_of (c.fn 19).choose_spec fun _ _ _ _ _ _ us hl => match us, hl with | [_], _ => rfl,
    p_Book_names := 661,
    P_Book_names := Hy.propK_ok (Hy.ex_at (l := exs K) c.ex 24),
    a__law_pot_of := 675,
    fd__law_pot_of := (c.fn 20).choose,
    F__law_pot_of := (c.fn 20).choose_spec,
    b__law_pot_of := Hy.binds_of (c.fn 20).choose_spec fun _ _ _ _ _ _ us hl => match us, hl with | [_, _], _ => rfl,
    m__law_pot_of := c.nm X G 65,
    a__law_take := 682,
    fd__law_take := (c.fn 21).choose,
    F__law_take := (c.fn 21).choose_spec,
    b__law_take := Hy.binds_of (c.fn 21).choose_spec fun _ _ _ _ _ _ us hl => match us, hl with | [_, _], _ => rfl,
    m__law_take := c.nm X G 66,
    a__law_of := 689,
    fd__law_of := (c.fn 22).choose,
    F__law_of := (c.fn 22).choose_spec,
    b__law_of := Hy.binds_of (c.fn 22).choose_spec fun _ _ _ _ _ _ us hl => match us, hl with | [_, _], _ => rfl,
    m__law_of := c.nm X G 67,
    a__law_unlike := 696,
    fd__law_unlike := (c.fn 23).choose,
    F__law_unlike := (c.fn 23).choose_spec,
    b__law_unlike := Hy.binds_of (c.fn 23).choose_spec fun _ _ _ _ _ _ us hl => match us, hl with | [_, _, _], _ => rfl,
    m__law_unlike := c.nm X G 68,
    a__law_plain := 703,
    fd__law_plain := (c.fn 24).choose,
    F__law_plain := (c.fn 24).choose_spec,
    b__law_plain := Hy.binds_of (c.fn 24).choose_spec fun _ _ _ _ _ _ us hl => match us, hl with | [_], _ => rfl,
    m__law_plain := c.nm X G 69,
    a__law_record := 710,
    fd__law_record := (c.fn 25).choose,
    F__law_record := (c.fn 25).choose_spec,
    b__law_record := Hy.binds_of (c.fn 25).choose_spec fun _ _ _ _ _ _ us hl => match us, hl with | [_, _, _], _ => rfl,
    m__law_record := c.nm X G 70,
    a__law_list := 717,
    fd__law_list := (c.fn 26).choose,
    F__law_list := (c.fn 26).choose_spec,
    b__law_list := Hy.binds_of (c.fn 26).choose_spec fun _ _ _ _ _ _ us hl => match us, hl with | [_, _], _ => rfl,
    m__law_list := c.nm X G 71,
    a__law_tagged := 722,
    fd__law_tagged := (c.fn 27).choose,
    F__law_tagged := (c.fn 27).choose_spec,
    b__law_tagged := Hy.binds_of (c.fn 27).choose_spec fun _ _ _ _ _ _ us hl => match us, hl with | [_, _, _], _ => rfl,
    m__law_tagged := c.nm X G 72,
    a__law_lore := 727,
    fd__law_lore := (c.fn 28).choose,
    F__law_lore := (c.fn 28).choose_spec,
    b__law_lore := Hy.binds_of (c.fn 28).choose_spec fun _ _ _ _ _ _ us hl => match us, hl with | [_], _ => rfl,
    m__law_lore := c.nm X G 73,
    a__law_kind_lines := 732,
    fd__law_kind_lines := (c.fn 29).choose,
    F__law_kind_lines := (c.fn 29).choose_spec,
    b__law_kind_lines := Hy.binds_of (c.fn 29).choose_spec fun _ _ _ _ _ _ us hl => match us, hl with | [_, _], _ => rfl,
    m__law_kind_lines := c.nm X G 74,
    a__law_page := 739,
    fd__law_page := (c.fn 30).choose,
    F__law_page := (c.fn 30).choose_spec,
    b__law_page := Hy.binds_of (c.fn 30).choose_spec fun _ _ _ _ _ _ us hl => match us, hl with | [_], _ => rfl,
    m__law_page := c.nm X G 75,
    a__law_heard := 746,
    fd__law_heard := (c.fn 31).choose,
    F__law_heard := (c.fn 31).choose_spec,
    b__law_heard := Hy.binds_of (c.fn 31).choose_spec fun _ _ _ _ _ _ us hl => match us, hl with | [_], _ => rfl,
    m__law_heard := c.nm X G 76,
    a__law_bent_lore := 751,
    fd__law_bent_lore := (c.fn 32).choose,
    F__law_bent_lore := (c.fn 32).choose_spec,
    b__law_bent_lore := Hy.binds_of (c.fn 32).choose_spec fun _ _ _ _ _ _ us hl => match us, hl with | [_, _], _ => rfl,
    m__law_bent_lore := c.nm X G 77,
    a__law_is_line := 756,
    fd__law_is_line := (c.fn 33).choose,
    F__law_is_line := (c.fn 33).choose_spec,
    b__law_is_line := Hy.binds_of (c.fn 33).choose_spec fun _ _ _ _ _ _ us hl => match us, hl with | [_, _, _], _ => rfl,
    m__law_is_line := c.nm X G 78,
    a__law_behind := 763,
    fd__law_behind := (c.fn 34).choose,
    F__law_behind := (c.fn 34).choose_spec,
    b__law_behind := Hy.binds_of (c.fn 34).choose_spec fun _ _ _ _ _ _ us hl => match us, hl with | [_, _], _ => rfl,
    m__law_behind := c.nm X G 79,
    a__law_due := 768,
    fd__law_due := (c.fn 35).choose,
    F__law_due := (c.fn 35).choose_spec,
    b__law_due := Hy.binds_of (c.fn 35).choose_spec fun _ _ _ _ _ _ us hl => match us, hl with | [_], _ => rfl,
    m__law_due := c.nm X G 80,
    a__law_right := 775,
    fd__law_right := (c.fn 36).choose,
    F__law_right := (c.fn 36).choose_spec,
    b__law_right := Hy.binds_of (c.fn 36).choose_spec fun _ _ _ _ _ _ us hl => match us, hl with | [_], _ => rfl,
    m__law_right := c.nm X G 81,
    a_law := 780,
    fd_law := (c.fn 37).choose,
    F_law := (c.fn 37).choose_spec,
    b_law := Hy.binds_of (c.fn 37).choose_spec fun _ _ _ _ _ _ us hl => match us, hl with | [_], _ => rfl,
    m_law := c.nm X G 82 }
theorem run (w : World) : HandSHeadRun.RunEq R (PySem.W.view R.prog [lawAt]) qk.hook qk.ob 9000 nm w := by
  intro os
  kernel_rfl
end Bk
end
section
set_option Elab.async false
set_option linter.all false
set_option maxRecDepth 100000
set_option maxHeartbeats 4000000
/-! Bk, part A: forms of kinds, and what a text of lines tells, in plain Lean. -/
namespace Bk
open PySem PySem.Spec PyProof.Rows L2 Tg Dw
abbrev cs (z : Str) : List Nat := z.cps.toList
theorem len_cs (z : Str) : (cs z).length = z.length := Array.length_toList
theorem str_eq {x y : Str} (h : cs x = cs y) : x = y := by
  obtain ⟨⟨a⟩⟩ := x
  obtain ⟨⟨b⟩⟩ := y
  have : a = b := h
  rw [this]
def ofL (l : List Nat) : Str := ⟨l.toArray⟩
theorem cs_ofL (l : List Nat) : cs (ofL l) = l := rfl
theorem ofL_cs (z : Str) : ofL (cs z) = z := str_eq rfl
theorem h64 {k : Nat} {A : Around} (hr : Room k A) : A.units + 64 < cLine := by have := hr.un; omega
theorem h65 {k : Nat} {A : Around} (hr : Room k A) : A.units + 65 < cLine := by have := hr.un; omega
theorem at_nat {α : Type} {l : List α} {i : Nat} {c : α} (h : l[i]? = some c) : atI l (i : Int) = some c := by
  have hl := (List.getElem?_eq_some_iff.mp h).1
  unfold atI ixN
  rw [if_pos (by omega), if_pos (by omega)]
  exact h
def low (c : Nat) : Bool := decide (97 ≤ c) && decide (c ≤ 122)
def isNmS (x : Str) : Bool := decide (1 ≤ x.length) && decide (x.length ≤ 8) && (cs x).all low
def isNm : PyData → Bool
  | .str x => isNmS x
  | _ => false
def isDig (c : Nat) : Bool := decide (48 ≤ c) && decide (c ≤ 57)
/-- the figures of a word -/
def figs (l : List Nat) : List Nat := if l.head? = some 45 then l.tail else l
def numOk (l : List Nat) : Bool := decide (1 ≤ (figs l).length) && decide ((figs l).length ≤ 9) && (figs l).all isDig && !(decide ((figs l).head? = some 48) && (decide (1 < (figs l).length) || !decide (l = figs l)))
def numIn (z : Str) : Option Int := if numOk (cs z) = true then intText? z else none
def optI : Option Int → PyData
  | none => .none
  | some i => .int i
inductive Form where
  | bare (w : Str)
  | int (lo hi : Int)
  | word (ws : List Str)
  | list (item : Str) (lo : Int) (hi : Option Int)
  | record (op : Bool) (rows : List (Str × Str × Bool))
  | either (ms : List Str)
  | tagged (f : Str) (rows : List (Str × Str))
def encF : Form → PyData
  | .bare w => .tuple [.str w]
  | .int lo hi => .tuple [.str "int", .int lo, .int hi]
  | .word ws => .tuple [.str "word", .tuple (ws.map .str)]
  | .list k lo hi => .tuple [.str "list", .str k, .int lo, optI hi]
  | .record op rows => .tuple [.str "record", .bool op, .tuple (rows.map fun r => .tuple [.str r.1, .str r.2.1, .bool r.2.2])]
  | .either ms => .tuple [.str "either", .tuple (ms.map .str)]
  | .tagged f rows => .tuple [.str "tagged", .str f, .tuple (rows.map fun r => .tuple [.str r.1, .str r.2])]
def optF : Option Form → PyData
  | none => .none
  | some f => encF f
def areNames (ws : List Str) : Bool := ws.all isNmS && decide ws.Nodup
def intForm (a b : Str) : Option Form := match numIn a, numIn b with
  | some lo, some hi => if lo ≤ hi then some (.int lo hi) else none
  | _, _ => none
def listForm (k a b : Str) : Option Form := match numIn a with
  | some lo => if isNmS k = true ∧ 0 ≤ lo ∧ lo ≤ 4 then (if b = Str.ofString "*" then some (.list k lo none) else match numIn b with
      | some hi => if lo ≤ hi ∧ hi ≤ 4 then some (.list k lo (some hi)) else none
      | none => none) else none
  | none => none
def flatForm (head : Str) (some' : List Str) : Option Form :=
  if head = Str.ofString "none" ∨ head = Str.ofString "bool" ∨ head = Str.ofString "text" then (if some' = [] then some (.bare head) else none)
  else if head = Str.ofString "int" then (match some' with
    | [a, b] => intForm a b
    | _ => none)
  else if head = Str.ofString "list" then (match some' with
    | [a, b, c] => listForm a b c
    | _ => none)
  else if head = Str.ofString "word" then (if some' ≠ [] ∧ areNames some' = true then some (.word some') else none)
  else if head = Str.ofString "either" then (if 2 ≤ some'.length ∧ areNames some' = true then some (.either some') else none)
  else none
def wordsIn (z : Str) : Option (List Str) := if Str.ofString "" ∈ Txt.split z (Str.ofString " ") then none else some (Txt.split z (Str.ofString " "))
/-! ### rows below a line -/
def dropS (z : Str) : Str := cutS z (some 2) none
def maybe : List Str := [Str.ofString "?"]
def rowOk (least most : Nat) (seen : List Str) (ws : List Str) : Bool :=
  decide (least ≤ ws.length) && decide (ws.length ≤ most) && areNames (ws.take 1) && areNames ((ws.drop 1).take 1) && !(seen.contains (ws.headD (Str.ofString ""))) && (decide (ws.drop 2 = []) || decide (ws.drop 2 = maybe))
def deepGo (least most : Nat) : Int → List Str → List (List Str) → Except Int (List (List Str))
  | _, [], found => .ok found
  | at_, line :: r, found => match wordsIn (dropS line) with
    | none => .error at_
    | some ws => if rowOk least most (found.map fun w => w.headD (Str.ofString "")) ws = true then deepGo least most (at_ + 1) r (found ++ [ws]) else .error at_
def word0 (ws : List Str) : Str := ws.headD (Str.ofString "")
def word1 (ws : List Str) : Str := (ws.drop 1).headD (Str.ofString "")
def formIn (number : Int) (words deeper : List Str) : Except Int Form :=
  if word0 words = Str.ofString "record" ∧ (words.drop 2 = [] ∨ words.drop 2 = [Str.ofString "open"]) then (match deepGo 2 3 (number + 1) deeper [] with
    | .error n => .error n
    | .ok rows => .ok (.record (decide (words.drop 2 = [Str.ofString "open"])) (rows.map fun r => (word0 r, word1 r, decide (r.length = 2)))))
  else if word0 words = Str.ofString "tagged" ∧ (words.drop 2).length = 1 ∧ isNmS (word0 (words.drop 2)) = true then (if deeper = [] then .error (number + 1) else match deepGo 2 2 (number + 1) deeper [] with
    | .error n => .error n
    | .ok rows => .ok (.tagged (word0 (words.drop 2)) (rows.map fun r => (word0 r, word1 r))))
  else match flatForm (word0 words) (words.drop 2) with
    | none => .error number
    | some f => if deeper ≠ [] then .error (number + 1) else .ok f
abbrev Rows := List (Str × Form × Int)
def headsAt (lines : List Str) : List Nat := (List.range lines.length).filter fun i => !Txt.startswith (lines.getD i (Str.ofString "")) (Str.ofString "  ")
def toldGo (lines : List Str) : List (Nat × Nat) → Rows → Except Int Rows
  | [], found => .ok found
  | (a, e) :: r, found => match wordsIn (lines.getD a (Str.ofString "")) with
    | none => .error (a + 1)
    | some ws => if ws.length < 2 ∨ isNmS (word1 ws) = false ∨ word1 ws ∈ found.map (·.1) then .error (a + 1) else match formIn (a + 1) ws ((lines.drop (a + 1)).take (e - (a + 1))) with
      | .error n => .error n
      | .ok f => toldGo lines r (found ++ [(word1 ws, f, ((a : Nat) : Int) + 1)])
def kindsTold (lines : List Str) : Except Int Rows := if (headsAt lines).head? ≠ some 0 then .error 1 else toldGo lines ((headsAt lines).zip ((headsAt lines).tail ++ [lines.length])) []
end Bk
end
section
--@@ genb
set_option Elab.async false
set_option linter.all false
set_option maxRecDepth 100000
set_option maxHeartbeats 4000000
namespace Bk
open PySem PySem.Spec PyProof.Rows L2 Tg Dw
local macro_rules | `(tactic| walk_at "d") => `(tactic| simp (maxSteps := 4000000) only [DVar, DCon, DLock, DLockV, DCons, DNil, DOp, DOpN, DUn, DTup, DLst, DCB, DCBN, DMt, DMtN, isB, DB, DNot, DAnd, DOr, DAndV, DOrV, DNotV, DIf, DChain, DNext, DSeq, DIfS, DRet, DDrop, DSet, DSetN, GName, GNil, GCons, GTup, DAsgG, DPar, isL, isT, isS, isI, IList, ITup, IStr, IRng1, IRng2, DFor, DLc, DYes, RInt, RIntC, RStr, RCatS, eqC, REq, RNe, isNone, RIsN, RNotN, RInS, RIx, RSlS, ONone, OSome, DSl, DSlN, on1, on2, RLen, RIntOf, RIntS, RStrI, RAbs, RMin2, RMax2, RAll, RAny, NList, RTuple, RReprD, MStarts, MFind, MJoin, tyB, DIs, DIs3, DApp, DCall, DCallX, DRaise, startD, RAdd, RLe, RInX, NCat, RMulX, NSlL, DFzS, DAug, DCallP, startP, wipeD, IItems, DDGet, DDIn, NSortedD, NListD, MDict, DCBM, DParND, DParNN, DPar3N, DPar3, GPut, DPeek, DNe0, DPop, DLenO, DPar3M, DRepl, DDisp1, DNone1, DLam, kD, DMatch, DArms, NSplit, NSortedS, DStar, DDc, flD, inF, eqF, DPeek1, restS, pickS, DLenSet, DSortSet, RDeq, RDne, RDin, DLc2, IEnAt, IKeys, IEnum, IZip, MStarts1, DStarC, DStarS, isStr, ISeq, RCatT, RSlT, RSum, MJoin2, NRep, DParDN, DExt, DListItems, GLst, DPar3DNN, DPutNew, List.length_cons, List.length_nil, List.map_cons, List.map_nil, List.replicate_succ, List.replicate_zero, List.cons_append, List.nil_append, List.getElem?_cons_zero, List.getElem?_cons_succ, List.set_cons_zero, List.set_cons_succ, Nat.reduceAdd, Nat.reduceSub, Nat.zero_add, Bool.not_true, Bool.not_false, Bool.false_eq_true, if_true, if_false, reduceIte, reduceCtorEq, beq_self_eq_true, Bool.true_or, Bool.or_true, Bool.false_or, Bool.or_false, String.reduceBEq, Option.some.injEq, false_and, and_false, exists_const, true_and, and_true, PyData.str.injEq, exists_eq', exists_eq_left', Nat.reduceLeDiff, DV.l.injEq, DV.m.injEq, DV.pot.injEq, List.all_cons, List.all_nil, List.any_cons, List.any_nil, Bool.and_self, Bool.and_true, Bool.true_and, List.zipWith_cons_cons, List.zipWith_nil_right])
theorem one_lt {a b : Nat} : ([a] < [b]) ↔ a < b := by simp [List.cons_lt_cons_iff]
theorem chr_a {c : Nat} : (!decide ((#[c] : Array Nat).toList < (Str.ofString "a").cps.toList)) = decide (97 ≤ c) := by
  have e : (Str.ofString "a").cps.toList = [97] := by decide +kernel
  rw [e]
  show (!decide ([c] < [97])) = _
  by_cases h : 97 ≤ c
  · rw [decide_eq_true h, decide_eq_false (by rw [one_lt]; omega)]
    rfl
  · rw [decide_eq_false h, decide_eq_true (by rw [one_lt]; omega)]
    rfl
theorem chr_z {c : Nat} : (!decide ((Str.ofString "z").cps.toList < (#[c] : Array Nat).toList)) = decide (c ≤ 122) := by
  have e : (Str.ofString "z").cps.toList = [122] := by decide +kernel
  rw [e]
  show (!decide ([122] < [c])) = _
  by_cases h : c ≤ 122
  · rw [decide_eq_true h, decide_eq_false (by rw [one_lt]; omega)]
    rfl
  · rw [decide_eq_false h, decide_eq_true (by rw [one_lt]; omega)]
    rfl
theorem chars_get {x : Str} {i : Nat} {y : PyData} (h : (chars x)[i]? = some y) : ∃ c, x.cps.toList[i]? = some c ∧ y = .str ⟨#[c]⟩ := by
  unfold chars at h
  rw [List.getElem?_map] at h
  cases q : x.cps.toList[i]? with
  | none => rw [q] at h; cases h
  | some c =>
    rw [q] at h
    simp only [Option.map_some, Option.some.injEq] at h
    exact ⟨c, rfl, h.symm⟩
section
variable {P : Program} {w : World} {K : PySem.W.Frag} {mg : Str → Option Value} {base : Heap}
def FName : DF := fun ds Kk => ∃ d, ds = [d] ∧ (∀ x, d = .str x → x.length ≤ 1000000) ∧ Kk (.bool (isNm d))
theorem ok_name (T : Tx P K mg) : FnOk P w K mg base CX0 1 T.a_is_name T.fd_is_name ["value"] (spD FName) := by
  refine Dw.okD T.F_is_name sc_is_name (fun ds Kk h => ?_) (fun cdv A outer s H E ds Kk hr h => ⟨_, _, (pss_cons (ps_if (PW.pt (pw_or (pt_not (pt_val (pe_callB call_isD (by rfl) T.n_isinstance PyProof.Rows.Boot.«isinstance» (pa_cons (pv 0) (pa_cons (pe_bltn (v := .ty "str") (by rfl) T.n_str PyProof.Rows.Boot.«str» rfl) pa_nil))))) (pw_or1 (pt_not (pt_chain dLeX dLeX pe_int (pe_callB dLen (by rfl) T.n_len PyProof.Rows.Boot.«len» (pa_cons (pv 0) pa_nil)) (pe_glob (v := .int 8) (by rfl) T.m_MOST_LETTERS ⟨_, rfl⟩)))))) (pss_one (ps_ret pe_bl)) pss_nil)
      (pss_one (ps_ret (pe_callB (dAll rfl) (by rfl) T.n_all PyProof.Rows.Boot.«all» (pa_cons (pe_fz (pe_lc (own := [("letter", 1)]) (g := gName 1) (tt := tYes) (by rfl) sc_is_name.nd (pi_str (pv 0)) (blkOk_by (own := [("letter", 1)]) (N := ["value", "letter"]) (sc := defScope s_is_name) (by decide +kernel)) (fun _ _ _ _ _ => (pg_name (i := 1) sc_is_name.nd rfl (Or.inl rfl))) (fun _ _ _ _ _ => pts_nil) (fun _ _ _ _ _ => (pe_chain dLeX dLeX pe_str (pv 1) pe_str)))) pa_nil))))), inferInstance, ?_⟩)
  · obtain ⟨d, rfl, _⟩ := h
    rfl
  obtain ⟨d, rfl, hz, k⟩ := h
  cases d with
  | str x =>
    have hx := hz x rfl
    walk_at "d"
    have e2 : isNm (.str x) = (decide (1 ≤ x.length) && decide (x.length ≤ 8) && (x.cps.toList.map low).all id) := by simp [isNm, isNmS, List.all_map, Function.comp_def]
    rw [e2] at k
    refine ⟨by omega, ?_⟩
    by_cases h1 : 1 ≤ x.length
    · rw [if_pos (by simp; omega)]
      by_cases h8 : x.length ≤ 8
      · rw [if_neg (by simp; omega)]
        rw [decide_eq_true h1, decide_eq_true h8] at k
        refine lc_map (fun d => match d with
          | .str z => .bool (z.cps.toList.all low)
          | _ => .none) (fun i y hy Q hQ => ?_) ?_ ?_
        · obtain ⟨c, hc, rfl⟩ := chars_get hy
          walk_at "d"
          rw [chr_a, chr_z]
          have e : low c = (decide (97 ≤ c) && decide (c ≤ 122)) := rfl
          simp only [List.all_cons, List.all_nil, Bool.and_true, e] at hQ
          cases ha : decide (97 ≤ c) <;> rw [ha] at hQ <;> exact hQ _ rfl
        · walk_at "d"
          refine ⟨x.cps.toList.map low, ?_, k⟩
          simp [chars, Function.comp_def]
        · have : (chars x).length = x.length := by simp [chars, Str.length]
          omega
      · rw [if_pos (by simp; omega)]
        rw [decide_eq_false h8, Bool.and_false] at k
        exact k
    · rw [if_neg (by simp; omega)]
      rw [decide_eq_false h1] at k
      exact k
  | _ =>
    walk_at "d"
    exact k
/-! ### integers -/
def isIntD : PyData → Bool
  | .int _ => true
  | _ => false
def FInt : DF := fun ds Kk => ∃ d, ds = [d] ∧ Kk (.bool (isIntD d))
theorem ok_int (T : Tx P K mg) : FnOk P w K mg base CX0 1 T.a_is_integer T.fd_is_integer ["value"] (spD FInt) := by
  refine Dw.okD T.F_is_integer sc_is_integer (fun ds Kk h => ?_) (fun cdv A outer s H E ds Kk hr h => ⟨_, _, (pss_one (ps_ret (pe_and (pe_callB call_isD (by rfl) T.n_isinstance PyProof.Rows.Boot.«isinstance» (pa_cons (pv 0) (pa_cons (pe_bltn (v := .ty "int") (by rfl) T.n_int PyProof.Rows.Boot.«int» rfl) pa_nil))) (pe_one (pe_not (pe_callB call_isD (by rfl) T.n_isinstance PyProof.Rows.Boot.«isinstance» (pa_cons (pv 0) (pa_cons (pe_bltn (v := .ty "bool") (by rfl) T.n_bool PyProof.Rows.Boot.«bool» rfl) pa_nil)))))))), inferInstance, ?_⟩)
  · obtain ⟨d, rfl, _⟩ := h
    rfl
  obtain ⟨d, rfl, k⟩ := h
  walk_at "d"
  cases d <;> exact k
def betw (lo hi : Int) : PyData → Bool
  | .int i => decide (lo ≤ i) && decide (i ≤ hi)
  | _ => false
def FBet : DF := fun ds Kk => ∃ d lo hi, ds = [d, .int lo, .int hi] ∧ Kk (.bool (betw lo hi d))
theorem ok_bet (T : Tx P K mg) : FnOk P w K mg base CX0 2 T.a_is_between T.fd_is_between ["value", "low", "high"] (spD FBet) := by
  have G_is_integer := ok_int (w := w) (base := base) T
  refine Dw.okD T.F_is_between sc_is_between (fun ds Kk h => ?_) (fun cdv A outer s H E ds Kk hr h => ⟨_, _, (pss_one (ps_ret (pe_and (pe_call G_is_integer (hr.mono (by first | decide | omega)) (by rfl) T.m_is_integer T.F_is_integer.kp T.b_is_integer .nil pass0 (pa_cons (pv 0) pa_nil)) (pe_one (pe_chain dLeX dLeX (pv 1) (pv 0) (pv 2)))))), inferInstance, ?_⟩)
  · obtain ⟨d, lo, hi, rfl, _⟩ := h
    rfl
  obtain ⟨d, lo, hi, rfl, k⟩ := h
  walk_at "d"
  refine ⟨d, rfl, ?_⟩
  cases d with
  | int i =>
    simp only [isIntD]
    walk_at "d"
    simp only [betw] at k
    by_cases h1 : lo ≤ i
    · rw [if_pos (decide_eq_true h1)]
      rw [decide_eq_true h1, Bool.true_and] at k
      exact k
    · rw [if_neg (by simp [h1])]
      rw [decide_eq_false h1, Bool.false_and] at k
      exact k
  | _ =>
    simp only [isIntD]
    walk_at "d"
    exact k
end
end Bk
end
section
--@@ genb
set_option Elab.async false
set_option linter.all false
set_option maxRecDepth 100000
set_option maxHeartbeats 4000000
set_option pp.maxSteps 1500
set_option synthInstance.maxHeartbeats 4000000
set_option synthInstance.maxSize 100000
namespace Bk
open PySem PySem.Spec PyProof.Rows L2 Tg Dw
local macro_rules | `(tactic| walk_at "d") => `(tactic| simp (maxSteps := 4000000) only [DVar, DCon, DLock, DLockV, DCons, DNil, DOp, DOpN, DUn, DTup, DLst, DCB, DCBN, DMt, DMtN, isB, DB, DNot, DAnd, DOr, DAndV, DOrV, DNotV, DIf, DChain, DNext, DSeq, DIfS, DRet, DDrop, DSet, DSetN, GName, GNil, GCons, GTup, DAsgG, DPar, isL, isT, isS, isI, IList, ITup, IStr, IRng1, IRng2, DFor, DLc, DYes, RInt, RIntC, RStr, RCatS, eqC, REq, RNe, isNone, RIsN, RNotN, RInS, RIx, RSlS, ONone, OSome, DSl, DSlN, on1, on2, RLen, RIntOf, RIntS, RStrI, RAbs, RMin2, RMax2, RAll, RAny, NList, RTuple, RReprD, MStarts, MFind, MJoin, tyB, DIs, DIs3, DApp, DCall, DCallX, DRaise, startD, RAdd, RLe, RInX, NCat, RMulX, NSlL, DFzS, DAug, DCallP, startP, wipeD, IItems, DDGet, DDIn, NSortedD, NListD, MDict, DCBM, DParND, DParNN, DPar3N, DPar3, GPut, DPeek, DNe0, DPop, DLenO, DPar3M, DRepl, DDisp1, DNone1, DLam, kD, DMatch, DArms, NSplit, NSortedS, DStar, DDc, flD, inF, eqF, DPeek1, restS, pickS, DLenSet, DSortSet, RDeq, RDne, RDin, DLc2, IEnAt, IKeys, IEnum, IZip, MStarts1, DStarC, DStarS, isStr, ISeq, RCatT, RSlT, RSum, MJoin2, NRep, DParDN, DExt, DListItems, GLst, DPar3DNN, DPutNew, List.length_cons, List.length_nil, List.map_cons, List.map_nil, List.replicate_succ, List.replicate_zero, List.cons_append, List.nil_append, List.getElem?_cons_zero, List.getElem?_cons_succ, List.set_cons_zero, List.set_cons_succ, Nat.reduceAdd, Nat.reduceSub, Nat.zero_add, Bool.not_true, Bool.not_false, Bool.false_eq_true, if_true, if_false, reduceIte, reduceCtorEq, beq_self_eq_true, Bool.true_or, Bool.or_true, Bool.false_or, Bool.or_false, String.reduceBEq, Option.some.injEq, false_and, and_false, exists_const, true_and, and_true, PyData.str.injEq, exists_eq', exists_eq_left', Nat.reduceLeDiff, DV.l.injEq, DV.m.injEq, DV.pot.injEq, List.all_cons, List.all_nil, List.any_cons, List.any_nil, Bool.and_self, Bool.and_true, Bool.true_and, List.zipWith_cons_cons, List.zipWith_nil_right])
theorem sub_at {x y : Str} {i : Nat} : Builtin.Str.subAt x y i = decide (((cs x).drop i).take y.length = cs y) := by
  unfold Builtin.Str.subAt
  rw [Bool.eq_iff_iff, decide_eq_true_eq, beq_iff_eq]
  constructor
  · intro h
    have h2 := congrArg Array.toList h
    rw [Array.toList_extract] at h2
    simpa [List.extract] using h2
  · intro h
    apply Array.toList_inj.mp
    rw [Array.toList_extract]
    simpa [List.extract] using h
theorem starts_is {x y : Str} : Txt.startswith x y = decide ((cs x).take y.length = cs y) := by
  unfold Txt.startswith
  rw [sub_at, List.drop_zero]
  by_cases h : (cs x).take y.length = cs y
  · rw [decide_eq_true h, Bool.and_true, decide_eq_true]
    have := congrArg List.length h
    rw [List.length_take, len_cs, len_cs] at this
    omega
  · rw [decide_eq_false h, Bool.and_false]
theorem starts_minus {z : Str} : Txt.startswith z (Str.ofString "-") = decide ((cs z).head? = some 45) := by
  rw [starts_is, show cs (Str.ofString "-") = [45] from by decide +kernel, show (Str.ofString "-").length = 1 from by decide]
  cases cs z with
  | nil => rfl
  | cons a r =>
    show decide ([a] = [45]) = decide (some a = some 45)
    simp
theorem cut_from {z : Str} {k : Nat} : cutS z (some (k : Int)) none = ofL ((cs z).drop k) := by
  unfold cutS ofL
  rw [HT.sIx_nat, HT.sIx_none]
  congr 2
  by_cases h : k ≤ z.length
  · rw [Nat.min_eq_left h]
    apply List.take_of_length_le
    rw [List.length_drop, len_cs]
    exact Nat.le_refl _
  · rw [Nat.min_eq_right (by omega), List.drop_of_length_le (by rw [len_cs]; omega), List.drop_of_length_le (by rw [len_cs]; omega)]
    simp
theorem dig_mem {c : Nat} : decide (c ∈ (Str.ofString "0123456789").cps.toList) = isDig c := by
  have e : (Str.ofString "0123456789").cps.toList = [48, 49, 50, 51, 52, 53, 54, 55, 56, 57] := by decide +kernel
  rw [e, isDig, Bool.eq_iff_iff]
  simp only [List.mem_cons, List.not_mem_nil, or_false, decide_eq_true_eq, Bool.and_eq_true]
  omega
theorem digit_of {a : List Nat} (h : a.all isDig = true) : NumText.AllDigits a := fun c hc => by
  have z := List.all_eq_true.mp h c hc
  unfold isDig at z
  rw [Bool.and_eq_true, decide_eq_true_eq, decide_eq_true_eq] at z
  exact z
theorem num_text {z : Str} (h : numOk (cs z) = true) : ∃ n, intText? z = some n := by
  unfold numOk at h
  simp only [Bool.and_eq_true, decide_eq_true_eq] at h
  obtain ⟨⟨⟨h1, h2⟩, h3⟩, _⟩ := h
  have lz := len_cs z
  unfold figs at h1 h2 h3
  by_cases hm : (cs z).head? = some 45
  · rw [if_pos hm] at h1 h2 h3
    cases q : cs z with
    | nil => rw [q] at hm; cases hm
    | cons a r =>
      rw [q] at hm h1 h2 h3 lz
      simp only [List.head?_cons, Option.some.injEq] at hm
      subst hm
      simp only [List.tail_cons] at h1 h2 h3
      simp only [List.length_cons] at lz
      exact ⟨_, intText_neg q (digit_of h3) (fun e => by rw [e] at h1; simp at h1) (by omega)⟩
  · rw [if_neg hm] at h1 h2 h3
    exact ⟨_, intText_digits (digit_of h3) (fun e => by rw [show cs z = [] from e] at h1; simp at h1) (by omega)⟩
theorem num_len {z : Str} (h : numOk (cs z) = true) : z.length ≤ 10 := by
  unfold numOk at h
  simp only [Bool.and_eq_true, decide_eq_true_eq] at h
  obtain ⟨⟨⟨h1, h2⟩, h3⟩, _⟩ := h
  have lz := len_cs z
  unfold figs at h2
  split at h2
  · rw [List.length_tail] at h2; omega
  · omega
section
variable {P : Program} {w : World} {K : PySem.W.Frag} {mg : Str → Option Value} {base : Heap}
def FNum : DF := fun ds Kk => ∃ z : Str, ds = [.str z] ∧ z.length ≤ 100000 ∧ Kk (optI (numIn z))
theorem ok_num (T : Tx P K mg) : FnOk P w K mg base CX0 1 T.a_number_in T.fd_number_in ["word"] (spD FNum) := by
  refine Dw.okD T.F_number_in sc_number_in (fun ds Kk h => ?_) (fun cdv A outer s H E ds Kk hr h => ⟨_, _, (pss_cons (ps_set (i := 1) sc_number_in.nd rfl (Or.inl rfl) (pe_ifExp (pt_val (pe_bm PySem.F.plainAttrs_str PySem.F.slot_str_startswith PySem.F.type_str_startswith mStarts1 (pv 0) (pa_cons (pe_glob (v := .str "-") (by rfl) T.m_MINUS ⟨_, rfl⟩) pa_nil))) (pe_slice dSlS (pv 0) (po_some pe_int) po_none) (pv 0)))
      (pss_cons (ps_if (PW.pt (pw_or (pt_not (pt_chain dLeX dLeX pe_int (pe_callB dLen (by rfl) T.n_len PyProof.Rows.Boot.«len» (pa_cons (pv 1) pa_nil)) (pe_glob (v := .int 9) (by rfl) T.m_MOST_DIGITS ⟨_, rfl⟩))) (pw_or1 (pt_not (pt_val (pe_callB (dAll rfl) (by rfl) T.n_all PyProof.Rows.Boot.«all» (pa_cons (pe_fz (pe_lc (own := [("sign", 2)]) (g := gName 2) (tt := tYes) (by rfl) sc_number_in.nd (pi_str (pv 1)) (blkOk_by (own := [("sign", 2)]) (N := ["word", "digits", "sign"]) (sc := defScope s_number_in) (by decide +kernel)) (fun _ _ _ _ _ => (pg_name (i := 2) sc_number_in.nd rfl (Or.inl rfl))) (fun _ _ _ _ _ => pts_nil) (fun _ _ _ _ _ => (pe_cmpR dInX (pv 2) (pe_glob (v := .str "0123456789") (by rfl) T.m_DIGITS ⟨_, rfl⟩) (by rfl))))) pa_nil))))))) (pss_one (ps_ret pe_non)) pss_nil)
      (pss_cons (ps_if (PW.pt (pw_and (pt_cmpR dEq (pe_ix dIx (pv 1) pe_int (fun _ _ => rfl)) (pe_ix dIx (pe_glob (v := .str "0123456789") (by rfl) T.m_DIGITS ⟨_, rfl⟩) pe_int (fun _ _ => rfl)) (nomark _)) (pw_and1 (PW.pt (pw_or (pt_cmpR dGt (pe_callB dLen (by rfl) T.n_len PyProof.Rows.Boot.«len» (pa_cons (pv 1) pa_nil)) pe_int (nomark _)) (pw_or1 (pt_cmpR dNe (pv 0) (pv 1) (nomark _)))))))) (pss_one (ps_ret pe_non)) pss_nil)
      (pss_one (ps_ret (pe_callTy dIntS (by rfl) T.n_int PyProof.Rows.Boot.«int» (pa_cons (pv 0) pa_nil))))))), inferInstance, ?_⟩)
  · obtain ⟨z, rfl, _⟩ := h
    rfl
  obtain ⟨z, rfl, hz, k⟩ := h
  generalize hU : DSeq (DIfS _ _ _) _ = UU
  have tail : ∀ y : Str, cs y = figs (cs z) → UU { nx := fun _ => Kk .none, rt := fun d _ => Kk d } [some (.d (.str z)), some (.d (.str y)), none] := by
    intro y hy
    have ly : y.length = (figs (cs z)).length := by rw [← len_cs, hy]
    have lf : (figs (cs z)).length ≤ z.length := by
      unfold figs
      split
      · rw [List.length_tail, len_cs]; omega
      · rw [len_cs]; exact Nat.le_refl _
    have nk : numOk (cs z) = false → Kk .none := fun h => by
      unfold numIn at k
      rw [if_neg (by rw [h]; decide)] at k
      exact k
    rw [← hU]
    walk_at "d"
    refine ⟨by omega, ?_⟩
    by_cases h1 : 1 ≤ (figs (cs z)).length
    · rw [if_pos (by simp; omega)]
      by_cases h9 : (figs (cs z)).length ≤ 9
      · rw [if_neg (by simp; omega)]
        refine lc_map (fun d => match d with
          | .str x => .bool (x.cps.toList.all isDig)
          | _ => .none) (fun i x hx Q hQ => ?_) ?_ (by have : (chars y).length = y.length := by simp [chars, Str.length]
                                                       omega)
        · obtain ⟨c, hc, rfl⟩ := chars_get hx
          walk_at "d"
          refine ⟨c, rfl, ?_⟩
          rw [dig_mem]
          simp only [List.all_cons, List.all_nil, Bool.and_true] at hQ
          exact hQ _ rfl
        · walk_at "d"
          refine ⟨(cs y).map isDig, by simp [chars, Function.comp_def], ?_⟩
          rw [List.all_map, hy, show (id ∘ isDig) = isDig from rfl]
          cases ha : (figs (cs z)).all isDig with
          | false =>
            walk_at "d"
            exact nk (by simp [numOk, ha])
          | true =>
            walk_at "d"
            cases q : figs (cs z) with
            | nil => rw [q] at h1; simp at h1
            | cons c0 r0 =>
              have hc0 : (cs y)[0]? = some c0 := by rw [hy, q]; rfl
              refine ⟨by omega, c0, at_nat (i := 0) hc0, by decide, 48, by decide +kernel, ?_⟩
              have e0 : decide (({ cps := #[c0] } : Str) = { cps := #[48] }) = decide (c0 = 48) := by
                rw [Bool.eq_iff_iff]
                simp
              rw [e0]
              have hh : decide ((figs (cs z)).head? = some 48) = decide (c0 = 48) := by rw [q]; simp
              have eyz : decide (z = y) = decide (cs z = figs (cs z)) := by
                rw [← hy, Bool.eq_iff_iff, decide_eq_true_eq, decide_eq_true_eq]
                exact ⟨fun e => by rw [e], str_eq⟩
              have fin : numOk (cs z) = true → ∃ n, intText? z = some n ∧ z.length ≤ 640 ∧ Kk (.int n) := fun h => by
                obtain ⟨n, hn⟩ := num_text h
                have := num_len h
                unfold numIn at k
                rw [if_pos h, hn] at k
                exact ⟨n, hn, by omega, k⟩
              have ok : numOk (cs z) = !(decide (c0 = 48) && (decide (1 < (figs (cs z)).length) || !decide (cs z = figs (cs z)))) := by
                unfold numOk
                rw [hh, ha, decide_eq_true h1, decide_eq_true h9]
                rfl
              by_cases h0 : c0 = 48
              · rw [if_pos (decide_eq_true h0)]
                rw [decide_eq_true h0, Bool.true_and] at ok
                rw [show decide ((1 : Int) < ((y.length : Nat) : Int)) = decide (1 < (figs (cs z)).length) by rw [ly, Bool.eq_iff_iff]; simp; omega]
                by_cases h2 : 1 < (figs (cs z)).length
                · rw [if_pos (decide_eq_true h2)]
                  rw [decide_eq_true h2] at ok
                  exact ⟨by omega, nk ok⟩
                · rw [if_neg (by simp only [decide_eq_true_eq]; exact h2)]
                  rw [decide_eq_false h2, Bool.false_or] at ok
                  refine ⟨by omega, ?_⟩
                  rw [eyz]
                  cases he : decide (cs z = figs (cs z)) with
                  | true =>
                    rw [he] at ok
                    walk_at "d"
                    exact fin ok
                  | false =>
                    rw [he] at ok
                    walk_at "d"
                    exact nk ok
              · rw [if_neg (by simp [h0])]
                rw [decide_eq_false h0] at ok
                exact fin ok
      · rw [if_pos (by simp; omega)]
        exact nk (by simp [numOk]; intros; omega)
    · rw [if_neg (by simp; omega)]
      exact nk (by simp [numOk]; intros; omega)
  walk_at "d"
  rw [starts_minus]
  by_cases hm : (cs z).head? = some 45
  · rw [if_pos (decide_eq_true hm)]
    refine ⟨by omega, ?_⟩
    rw [show (1 : Int) = ((1 : Nat) : Int) from rfl, cut_from]
    exact tail _ (by unfold figs; rw [if_pos hm, cs_ofL, List.drop_one])
  · rw [if_neg (by simp [hm])]
    exact tail z (by unfold figs; rw [if_neg hm])
end
end Bk
end
section
--@@ genb
set_option Elab.async false
set_option linter.all false
set_option maxRecDepth 100000
set_option maxHeartbeats 4000000
set_option pp.maxSteps 1500
set_option synthInstance.maxHeartbeats 4000000
set_option synthInstance.maxSize 100000
namespace Bk
open PySem PySem.Spec PyProof.Rows L2 Tg Dw
local macro_rules | `(tactic| walk_at "d") => `(tactic| simp (maxSteps := 4000000) only [DVar, DCon, DLock, DLockV, DCons, DNil, DOp, DOpN, DUn, DTup, DLst, DCB, DCBN, DMt, DMtN, isB, DB, DNot, DAnd, DOr, DAndV, DOrV, DNotV, DIf, DChain, DNext, DSeq, DIfS, DRet, DDrop, DSet, DSetN, GName, GNil, GCons, GTup, DAsgG, DPar, isL, isT, isS, isI, IList, ITup, IStr, IRng1, IRng2, DFor, DLc, DYes, RInt, RIntC, RStr, RCatS, eqC, REq, RNe, isNone, RIsN, RNotN, RInS, RIx, RSlS, ONone, OSome, DSl, DSlN, on1, on2, RLen, RIntOf, RIntS, RStrI, RAbs, RMin2, RMax2, RAll, RAny, NList, RTuple, RReprD, MStarts, MFind, MJoin, tyB, DIs, DIs3, DApp, DCall, DCallX, DRaise, startD, RAdd, RLe, RInX, NCat, RMulX, NSlL, DFzS, DAug, DCallP, startP, wipeD, IItems, DDGet, DDIn, NSortedD, NListD, MDict, DCBM, DParND, DParNN, DPar3N, DPar3, GPut, DPeek, DNe0, DPop, DLenO, DPar3M, DRepl, DDisp1, DNone1, DLam, kD, DMatch, DArms, NSplit, NSortedS, DStar, DDc, flD, inF, eqF, DPeek1, restS, pickS, DLenSet, DSortSet, RDeq, RDne, RDin, DLc2, IEnAt, IKeys, IEnum, IZip, MStarts1, DStarC, DStarS, isStr, ISeq, RCatT, RSlT, RSum, MJoin2, NRep, DParDN, DExt, DListItems, GLst, DPar3DNN, DPutNew, List.length_cons, List.length_nil, List.map_cons, List.map_nil, List.replicate_succ, List.replicate_zero, List.cons_append, List.nil_append, List.getElem?_cons_zero, List.getElem?_cons_succ, List.set_cons_zero, List.set_cons_succ, Nat.reduceAdd, Nat.reduceSub, Nat.zero_add, Bool.not_true, Bool.not_false, Bool.false_eq_true, if_true, if_false, reduceIte, reduceCtorEq, beq_self_eq_true, Bool.true_or, Bool.or_true, Bool.false_or, Bool.or_false, String.reduceBEq, Option.some.injEq, false_and, and_false, exists_const, true_and, and_true, PyData.str.injEq, exists_eq', exists_eq_left', Nat.reduceLeDiff, DV.l.injEq, DV.m.injEq, DV.pot.injEq, List.all_cons, List.all_nil, List.any_cons, List.any_nil, Bool.and_self, Bool.and_true, Bool.true_and, List.zipWith_cons_cons, List.zipWith_nil_right])
theorem map_strs {ws : List Str} {i : Nat} {y : PyData} (h : (ws.map PyData.str)[i]? = some y) : ∃ x, ws[i]? = some x ∧ y = .str x := by
  rw [List.getElem?_map] at h
  cases q : ws[i]? with
  | none => rw [q] at h; cases h
  | some x =>
    rw [q] at h
    exact ⟨x, rfl, (Option.some.inj h).symm⟩
theorem betw_t {lo hi i : Int} (h : lo ≤ i ∧ i ≤ hi) : betw lo hi (optI (some i)) = true := by simp [optI, betw, h]
theorem betw_f {lo hi i : Int} (h : ¬ (lo ≤ i ∧ i ≤ hi)) : betw lo hi (optI (some i)) = false := by
  simp only [optI, betw, Bool.and_eq_false_iff, decide_eq_false_iff_not]
  omega
theorem betw_n {lo hi : Int} : betw lo hi (optI none) = false := rfl
section
variable {P : Program} {w : World} {K : PySem.W.Frag} {mg : Str → Option Value} {base : Heap}
/-- texts that are not long -/
def Short (ws : List Str) : Prop := ws.length ≤ 1000 ∧ ∀ x ∈ ws, x.length ≤ 100000
def FNames : DF := fun ds Kk => ∃ ws : List Str, ds = [.list (ws.map .str)] ∧ Short ws ∧ Kk (.bool (areNames ws))
theorem ok_names (T : Tx P K mg) : FnOk P w K mg base CX0 2 T.a_are_names T.fd_are_names ["values"] (spD FNames) := by
  have G_is_name := ok_name (w := w) (base := base) T
  refine Dw.okD T.F_are_names sc_are_names (fun ds Kk h => ?_) (fun cdv A outer s H E ds Kk hr h => ⟨_, _, (pss_one (ps_ret (pe_and (pe_callB (dAll rfl) (by rfl) T.n_all PyProof.Rows.Boot.«all» (pa_cons (pe_fz (pe_lc (own := [("value", 1)]) (g := gName 1) (tt := tYes) (by rfl) sc_are_names.nd (pi_list (pv 0)) (blkOk_by (own := [("value", 1)]) (N := ["values", "value"]) (sc := defScope s_are_names) (by decide +kernel)) (fun _ _ _ _ _ => (pg_name (i := 1) sc_are_names.nd rfl (Or.inl rfl))) (fun _ _ _ _ _ => pts_nil) (fun _ _ _ _ _ => (pe_call G_is_name (hr.mono (by first | decide | omega)) (by rfl) T.m_is_name T.F_is_name.kp T.b_is_name .nil pass0 (pa_cons (pv 1) pa_nil))))) pa_nil)) (pe_one (pe_cmpR dEq (pe_callB Ts.cr_lenT (by rfl) T.n_len PyProof.Rows.Boot.«len» (pa_cons (pe_callTy (Ts.cr_setT rfl) (by rfl) T.n_set PyProof.Rows.Boot.«set» (pa_cons (pv 0) pa_nil)) pa_nil)) (pe_callB dLen (by rfl) T.n_len PyProof.Rows.Boot.«len» (pa_cons (pv 0) pa_nil)) (nomark _)))))), inferInstance, ?_⟩)
  · obtain ⟨ws, rfl, _⟩ := h
    rfl
  obtain ⟨ws, rfl, hs, k⟩ := h
  walk_at "d"
  refine lc_map (fun d => .bool (isNm d)) (fun i y hy Q hQ => ?_) ?_ (by rw [List.length_map]; have := hs.1; omega)
  · obtain ⟨x, hx, rfl⟩ := map_strs hy
    walk_at "d"
    exact ⟨_, rfl, fun z e => by cases e; have := hs.2 x (List.mem_of_getElem? hx); omega, hQ _ rfl⟩
  · walk_at "d"
    refine ⟨ws.map isNmS, by simp [isNm, Function.comp_def], ?_⟩
    have e1 : ((ws.map isNmS).all id) = ws.all isNmS := by rw [List.all_map]; rfl
    rw [e1]
    unfold areNames at k
    cases ha : ws.all isNmS with
    | false =>
      rw [ha] at k
      walk_at "d"
      exact k
    | true =>
      rw [ha] at k
      walk_at "d"
      refine ⟨ws, rfl, hs.1, ?_⟩
      rw [List.length_map, show decide ((((Ts.dedT ws).length : Nat) : Int) = ((ws.length : Nat) : Int)) = decide ws.Nodup by rw [Bool.eq_iff_iff, decide_eq_true_eq, decide_eq_true_eq, ← Ts.ded_nodup]; omega]
      exact k
def FIntF : DF := fun ds Kk => ∃ a b : Str, ds = [.str a, .str b] ∧ a.length ≤ 100000 ∧ b.length ≤ 100000 ∧ Kk (optF (intForm a b))
theorem ok_intF (T : Tx P K mg) : FnOk P w K mg base CX0 2 T.a_int_form T.fd_int_form ["low", "high"] (spD FIntF) := by
  have G_number_in := ok_num (w := w) (base := base) T
  refine Dw.okD T.F_int_form sc_int_form (fun ds Kk h => ?_) (fun cdv A outer s H E ds Kk hr h => ⟨_, _, (pss_cons (ps_par (i := 2) (j := 3) (by rfl) sc_int_form.nd rfl rfl (by decide) rfl rfl (pa_cons (pe_call G_number_in (hr.mono (by first | decide | omega)) (by rfl) T.m_number_in T.F_number_in.kp T.b_number_in .nil pass0 (pa_cons (pv 0) pa_nil)) (pa_cons (pe_call G_number_in (hr.mono (by first | decide | omega)) (by rfl) T.m_number_in T.F_number_in.kp T.b_number_in .nil pass0 (pa_cons (pv 1) pa_nil)) pa_nil)) (by rfl))
      (pss_cons (ps_if (PW.pt (pw_or (pt_cmpR dIsN (pv 2) pe_non (nomark _)) (pw_or (pt_cmpR dIsN (pv 3) pe_non (nomark _)) (pw_or1 (pt_cmpR dGt (pv 2) (pv 3) (nomark _)))))) (pss_one (ps_ret pe_non)) pss_nil)
      (pss_one (ps_ret (pe_tup (pa_cons (pe_glob (v := .str "int") (by rfl) T.m_INT ⟨_, rfl⟩) (pa_cons (pv 2) (pa_cons (pv 3) pa_nil)))))))), inferInstance, ?_⟩)
  · obtain ⟨a, b, rfl, _⟩ := h
    rfl
  obtain ⟨a, b, rfl, la, lb, k⟩ := h
  walk_at "d"
  refine ⟨a, rfl, la, b, rfl, lb, ?_⟩
  unfold intForm at k
  cases ha : numIn a with
  | none =>
    rw [ha] at k
    simp only [optI]
    walk_at "d"
    exact k
  | some lo =>
    rw [ha] at k
    cases hb : numIn b with
    | none =>
      rw [hb] at k
      simp only [optI]
      walk_at "d"
      exact k
    | some hi =>
      rw [hb] at k
      simp only [optI]
      walk_at "d"
      simp only at k
      by_cases h : lo ≤ hi
      · rw [if_pos h] at k
        rw [if_neg (by simp; omega)]
        exact k
      · rw [if_neg h] at k
        rw [if_pos (by simp; omega)]
        exact k
def FListF : DF := fun ds Kk => ∃ c a b : Str, ds = [.str c, .str a, .str b] ∧ c.length ≤ 100000 ∧ a.length ≤ 100000 ∧ b.length ≤ 100000 ∧ Kk (optF (listForm c a b))
theorem ok_listF (T : Tx P K mg) : FnOk P w K mg base CX0 3 T.a_list_form T.fd_list_form ["item", "low", "high"] (spD FListF) := by
  have G_number_in := ok_num (w := w) (base := base) T
  have G_is_name := ok_name (w := w) (base := base) T
  have G_is_between := ok_bet (w := w) (base := base) T
  refine Dw.okD T.F_list_form sc_list_form (fun ds Kk h => ?_) (fun cdv A outer s H E ds Kk hr h => ⟨_, _, (pss_cons (ps_par (i := 3) (j := 4) (by rfl) sc_list_form.nd rfl rfl (by decide) rfl rfl (pa_cons (pe_call G_number_in (hr.mono (by first | decide | omega)) (by rfl) T.m_number_in T.F_number_in.kp T.b_number_in .nil pass0 (pa_cons (pv 1) pa_nil)) (pa_cons (pe_ifExp (pt_cmpR dEq (pv 2) (pe_glob (v := .str "*") (by rfl) T.m_ENDLESS ⟨_, rfl⟩) (nomark _)) pe_non (pe_call G_number_in (hr.mono (by first | decide | omega)) (by rfl) T.m_number_in T.F_number_in.kp T.b_number_in .nil pass0 (pa_cons (pv 2) pa_nil))) pa_nil)) (by rfl))
      (pss_cons (ps_if (PW.pt (pw_or (pt_not (pt_val (pe_call G_is_name (hr.mono (by first | decide | omega)) (by rfl) T.m_is_name T.F_is_name.kp T.b_is_name .nil pass0 (pa_cons (pv 0) pa_nil)))) (pw_or1 (pt_not (pt_val (pe_call G_is_between (hr.mono (by first | decide | omega)) (by rfl) T.m_is_between T.F_is_between.kp T.b_is_between .nil pass0 (pa_cons (pv 3) (pa_cons pe_int (pa_cons (pe_glob (v := .int 4) (by rfl) T.m_MOST_LIST ⟨_, rfl⟩) pa_nil))))))))) (pss_one (ps_ret pe_non)) pss_nil)
      (pss_cons (ps_if (PW.pt (pw_and (pt_cmpR dNe (pv 2) (pe_glob (v := .str "*") (by rfl) T.m_ENDLESS ⟨_, rfl⟩) (nomark _)) (pw_and1 (pt_not (pt_val (pe_call G_is_between (hr.mono (by first | decide | omega)) (by rfl) T.m_is_between T.F_is_between.kp T.b_is_between .nil pass0 (pa_cons (pv 4) (pa_cons (pv 3) (pa_cons (pe_glob (v := .int 4) (by rfl) T.m_MOST_LIST ⟨_, rfl⟩) pa_nil))))))))) (pss_one (ps_ret pe_non)) pss_nil)
      (pss_one (ps_ret (pe_tup (pa_cons (pe_glob (v := .str "list") (by rfl) T.m_LIST ⟨_, rfl⟩) (pa_cons (pv 0) (pa_cons (pv 3) (pa_cons (pv 4) pa_nil)))))))))), inferInstance, ?_⟩)
  · obtain ⟨c, a, b, rfl, _⟩ := h
    rfl
  obtain ⟨c, a, b, rfl, lc, la, lb, k⟩ := h
  generalize hU : DSeq (DIfS _ _ _) _ = UU
  have tail : ∀ y : PyData, y = (if b = Str.ofString "*" then PyData.none else optI (numIn b)) → UU { nx := fun _ => Kk .none, rt := fun d _ => Kk d } [some (.d (.str c)), some (.d (.str a)), some (.d (.str b)), some (.d (optI (numIn a))), some (.d y)] := by
    intro y hy
    rw [← hU]
    walk_at "d"
    refine ⟨_, rfl, fun z e => by cases e; omega, ?_⟩
    unfold listForm at k
    rcases (show isNm (.str c) = false ∨ isNm (.str c) = true by cases isNm (.str c) <;> simp) with hn | hn
    · rw [hn]
      rw [show isNmS c = false from hn] at k
      walk_at "d"
      cases ha : numIn a with
      | none => rw [ha] at k; exact k
      | some lo => rw [ha] at k; simpa [optF] using k
    · rw [hn]
      rw [show isNmS c = true from hn] at k
      walk_at "d"
      refine ⟨_, _, _, rfl, ?_⟩
      cases ha : numIn a with
      | none =>
        rw [ha] at k
        rw [betw_n]
        walk_at "d"
        exact k
      | some lo =>
        rw [ha] at k
        simp only [true_and] at k
        by_cases h0 : 0 ≤ lo ∧ lo ≤ 4
        · rw [if_pos h0] at k
          rw [betw_t h0]
          walk_at "d"
          by_cases hb : b = Str.ofString "*"
          · rw [if_pos hb] at k
            rw [if_neg (by simp [hb])]
            rw [hy, if_pos hb]
            exact k
          · rw [if_neg hb] at k
            rw [if_pos (by simp [hb])]
            refine ⟨y, lo, 4, rfl, ?_⟩
            rw [hy, if_neg hb]
            cases hh : numIn b with
            | none =>
              rw [hh] at k
              rw [betw_n]
              walk_at "d"
              exact k
            | some hi =>
              rw [hh] at k
              simp only at k
              by_cases h4 : lo ≤ hi ∧ hi ≤ 4
              · rw [if_pos h4] at k
                rw [betw_t h4]
                walk_at "d"
                exact k
              · rw [if_neg h4] at k
                rw [betw_f h4]
                walk_at "d"
                exact k
        · rw [if_neg h0] at k
          rw [betw_f h0]
          walk_at "d"
          exact k
  walk_at "d"
  refine ⟨a, rfl, la, ?_⟩
  dsimp only
  by_cases hb : b = Str.ofString "*"
  · rw [if_pos (decide_eq_true hb)]
    exact tail _ (by rw [if_pos hb])
  · rw [if_neg (by simp [hb])]
    exact ⟨b, rfl, lb, tail _ (by rw [if_neg hb])⟩
end
end Bk
end
section
--@@ genb
set_option Elab.async false
set_option linter.all false
set_option maxRecDepth 100000
set_option maxHeartbeats 4000000
set_option pp.maxSteps 1500
set_option synthInstance.maxHeartbeats 4000000
set_option synthInstance.maxSize 100000
namespace Bk
open PySem PySem.Spec PyProof.Rows L2 Tg Dw
local macro_rules | `(tactic| walk_at "d") => `(tactic| simp (maxSteps := 4000000) only [DVar, DCon, DLock, DLockV, DCons, DNil, DOp, DOpN, DUn, DTup, DLst, DCB, DCBN, DMt, DMtN, isB, DB, DNot, DAnd, DOr, DAndV, DOrV, DNotV, DIf, DChain, DNext, DSeq, DIfS, DRet, DDrop, DSet, DSetN, GName, GNil, GCons, GTup, DAsgG, DPar, isL, isT, isS, isI, IList, ITup, IStr, IRng1, IRng2, DFor, DLc, DYes, RInt, RIntC, RStr, RCatS, eqC, REq, RNe, isNone, RIsN, RNotN, RInS, RIx, RSlS, ONone, OSome, DSl, DSlN, on1, on2, RLen, RIntOf, RIntS, RStrI, RAbs, RMin2, RMax2, RAll, RAny, NList, RTuple, RReprD, MStarts, MFind, MJoin, tyB, DIs, DIs3, DApp, DCall, DCallX, DRaise, startD, RAdd, RLe, RInX, NCat, RMulX, NSlL, DFzS, DAug, DCallP, startP, wipeD, IItems, DDGet, DDIn, NSortedD, NListD, MDict, DCBM, DParND, DParNN, DPar3N, DPar3, GPut, DPeek, DNe0, DPop, DLenO, DPar3M, DRepl, DDisp1, DNone1, DLam, kD, DMatch, DArms, NSplit, NSortedS, DStar, DDc, flD, inF, eqF, DPeek1, restS, pickS, DLenSet, DSortSet, RDeq, RDne, RDin, DLc2, IEnAt, IKeys, IEnum, IZip, MStarts1, DStarC, DStarS, isStr, ISeq, RCatT, RSlT, RSum, MJoin2, NRep, DParDN, DExt, DListItems, GLst, DPar3DNN, DPutNew, List.length_cons, List.length_nil, List.map_cons, List.map_nil, List.replicate_succ, List.replicate_zero, List.cons_append, List.nil_append, List.getElem?_cons_zero, List.getElem?_cons_succ, List.set_cons_zero, List.set_cons_succ, Nat.reduceAdd, Nat.reduceSub, Nat.zero_add, Bool.not_true, Bool.not_false, Bool.false_eq_true, if_true, if_false, reduceIte, reduceCtorEq, beq_self_eq_true, Bool.true_or, Bool.or_true, Bool.false_or, Bool.or_false, String.reduceBEq, Option.some.injEq, false_and, and_false, exists_const, true_and, and_true, PyData.str.injEq, exists_eq', exists_eq_left', Nat.reduceLeDiff, DV.l.injEq, DV.m.injEq, DV.pot.injEq, List.all_cons, List.all_nil, List.any_cons, List.any_nil, Bool.and_self, Bool.and_true, Bool.true_and, List.zipWith_cons_cons, List.zipWith_nil_right])
theorem eqv_nil (ws : List Str) : PyData.eqv (.list (ws.map .str)) (.list []) = decide (ws = []) := eqv_strs ws []
theorem okE_nil : okE (.list []) = true := okE_strs (xs := []) (fun x h => by cases h)
section
variable {P : Program} {w : World} {K : PySem.W.Frag} {mg : Str → Option Value} {base : Heap}
/-! ### forms of one line -/
def FFlat : DF := fun ds Kk => ∃ (head : Str) (ws : List Str), ds = [.list ((head :: ws).map .str)] ∧ Short ws ∧ head.length ≤ 100000 ∧ (∀ x ∈ ws, PyData.strOk x = true) ∧ Kk (optF (flatForm head ws))
theorem ok_flatF (T : Tx P K mg) : FnOk P w K mg base CX0 4 T.a_flat_form T.fd_flat_form ["words"] (spD FFlat) := by
  have G_int_form := ok_intF (w := w) (base := base) T
  have G_list_form := ok_listF (w := w) (base := base) T
  have G_are_names := ok_names (w := w) (base := base) T
  refine Dw.okD T.F_flat_form sc_flat_form (fun ds Kk h => ?_) (fun cdv A outer s H E ds Kk hr h => ⟨_, _, (pss_cons (ps_fzS (i := 2) (ps_asg (pv 0) (Sr.pg_star (by rfl) (pgs_cons (pg_name (i := 1) sc_flat_form.nd rfl (Or.inl rfl)) (pgs_cons (pg_name (i := 2) sc_flat_form.nd rfl (Or.inl rfl)) pgs_nil)))))
      (pss_cons (ps_match (pv 1) (pm_cons (pp_or (pf_cons pp_val (pf_cons pp_val (pf_cons pp_val pf_nil)))) (pss_one (ps_ret (pe_ifExp (pt_cmpR (dEqD (h64 hr)) (pv 2) (pe_fz (pe_lst pa_nil)) (nomark _)) (pe_tup (pa_cons (pv 1) pa_nil)) pe_non)))
      (pm_cons pp_val (pss_one (ps_ret (pe_ifExp (pt_cmpR dEq (pe_callB dLen (by rfl) T.n_len PyProof.Rows.Boot.«len» (pa_cons (pv 2) pa_nil)) (pe_glob (v := .int 2) (by rfl) T.m_PAIR ⟨_, rfl⟩) (nomark _)) (pe_starC G_int_form (hr.mono (by first | decide | omega)) (by rfl) T.m_int_form T.F_int_form.kp T.b_int_form pass0 (pv 2)) pe_non)))
      (pm_cons pp_val (pss_one (ps_ret (pe_ifExp (pt_cmpR dEq (pe_callB dLen (by rfl) T.n_len PyProof.Rows.Boot.«len» (pa_cons (pv 2) pa_nil)) (pe_glob (v := .int 3) (by rfl) T.m_TRIPLE ⟨_, rfl⟩) (nomark _)) (pe_starC G_list_form (hr.mono (by first | decide | omega)) (by rfl) T.m_list_form T.F_list_form.kp T.b_list_form pass0 (pv 2)) pe_non)))
      (pm_cons pp_val (pss_one (ps_ret (pe_ifExp (PW.pt (pw_and (pt_cmpR (dNeD (h64 hr)) (pv 2) (pe_fz (pe_lst pa_nil)) (nomark _)) (pw_and1 (pt_val (pe_call G_are_names (hr.mono (by first | decide | omega)) (by rfl) T.m_are_names T.F_are_names.kp T.b_are_names .nil pass0 (pa_cons (pv 2) pa_nil)))))) (pe_tup (pa_cons (pe_glob (v := .str "word") (by rfl) T.m_WORD ⟨_, rfl⟩) (pa_cons (pe_callTy dTuple (by rfl) T.n_tuple PyProof.Rows.Boot.«tuple» (pa_cons (pv 2) pa_nil)) pa_nil))) pe_non)))
      (pm_cons pp_val (pss_one (ps_ret (pe_ifExp (PW.pt (pw_and (pt_cmpR dGe (pe_callB dLen (by rfl) T.n_len PyProof.Rows.Boot.«len» (pa_cons (pv 2) pa_nil)) (pe_glob (v := .int 2) (by rfl) T.m_LEAST_MEMBERS ⟨_, rfl⟩) (nomark _)) (pw_and1 (pt_val (pe_call G_are_names (hr.mono (by first | decide | omega)) (by rfl) T.m_are_names T.F_are_names.kp T.b_are_names .nil pass0 (pa_cons (pv 2) pa_nil)))))) (pe_tup (pa_cons (pe_glob (v := .str "either") (by rfl) T.m_EITHER ⟨_, rfl⟩) (pa_cons (pe_callTy dTuple (by rfl) T.n_tuple PyProof.Rows.Boot.«tuple» (pa_cons (pv 2) pa_nil)) pa_nil))) pe_non)))
      pm_nil))))))
      (pss_one (ps_ret pe_non)))), inferInstance, ?_⟩)
  · obtain ⟨hd, ws, rfl, _⟩ := h
    rfl
  obtain ⟨hd, ws, rfl, hs, lh, sk, k⟩ := h
  walk_at "d"
  refine ⟨by decide, ?_⟩
  unfold flatForm at k
  have c3 : ([Str.ofString "none", Str.ofString "bool", Str.ofString "text"].contains hd = true) ↔ (hd = Str.ofString "none" ∨ hd = Str.ofString "bool" ∨ hd = Str.ofString "text") := by simp
  by_cases h1 : hd = Str.ofString "none" ∨ hd = Str.ofString "bool" ∨ hd = Str.ofString "text"
  · rw [if_pos h1] at k
    rw [if_pos (c3.mpr h1)]
    walk_at "d"
    refine ⟨okE_strs sk, okE_nil, ?_⟩
    rw [eqv_nil]
    by_cases e : ws = []
    · rw [if_pos e] at k
      rw [if_pos (by simp [e])]
      exact k
    · rw [if_neg e] at k
      rw [if_neg (by simp [e])]
      exact k
  rw [if_neg h1] at k
  rw [if_neg (fun q => h1 (c3.mp q))]
  by_cases h2 : hd = Str.ofString "int"
  · rw [if_pos h2] at k
    rw [if_pos (by simp [h2])]
    walk_at "d"
    rw [List.length_map]
    match ws, hs, k with
    | [a, b], hs, k =>
      rw [if_pos (by simp)]
      exact ⟨a, b, rfl, hs.2 a (by simp), hs.2 b (by simp), k⟩
    | [], hs, k => rw [if_neg (by simp)]; exact k
    | [a], hs, k => rw [if_neg (by simp)]; exact k
    | a :: b :: c :: r, hs, k => rw [if_neg (by simp; omega)]; exact k
  rw [if_neg h2] at k
  rw [if_neg (by simp [h2])]
  by_cases h3 : hd = Str.ofString "list"
  · rw [if_pos h3] at k
    rw [if_pos (by simp [h3])]
    walk_at "d"
    rw [List.length_map]
    match ws, hs, k with
    | [a, b, c], hs, k =>
      rw [if_pos (by simp)]
      exact ⟨a, b, c, rfl, hs.2 a (by simp), hs.2 b (by simp), hs.2 c (by simp), k⟩
    | [], hs, k => rw [if_neg (by simp)]; exact k
    | [a], hs, k => rw [if_neg (by simp)]; exact k
    | [a, b], hs, k => rw [if_neg (by simp)]; exact k
    | a :: b :: c :: d :: r, hs, k => rw [if_neg (by simp; omega)]; exact k
  rw [if_neg h3] at k
  rw [if_neg (by simp [h3])]
  by_cases h4 : hd = Str.ofString "word"
  · rw [if_pos h4] at k
    rw [if_pos (by simp [h4])]
    walk_at "d"
    refine ⟨okE_strs sk, okE_nil, ?_⟩
    rw [eqv_nil]
    by_cases e : ws = []
    · rw [if_neg (fun q => q.1 e)] at k
      rw [if_neg (by simp [e])]
      exact k
    · rw [if_pos (by simp [e])]
      refine ⟨ws, rfl, hs, ?_⟩
      cases ha : areNames ws with
      | false => rw [ha, if_neg (by simp)] at k; exact k
      | true => rw [ha, if_pos ⟨e, rfl⟩] at k; exact k
  rw [if_neg h4] at k
  rw [if_neg (by simp [h4])]
  by_cases h5 : hd = Str.ofString "either"
  · rw [if_pos h5] at k
    rw [if_pos (by simp [h5])]
    walk_at "d"
    rw [List.length_map]
    by_cases e : 2 ≤ ws.length
    · rw [if_pos (by simp; omega)]
      refine ⟨ws, rfl, hs, ?_⟩
      cases ha : areNames ws with
      | false => rw [ha, if_neg (by simp)] at k; exact k
      | true => rw [ha, if_pos ⟨e, rfl⟩] at k; exact k
    · rw [if_neg (fun q => e q.1)] at k
      rw [if_neg (by simp; omega)]
      exact k
  rw [if_neg h5] at k
  rw [if_neg (by simp [h5])]
  walk_at "d"
  exact k
end
end Bk
end
section
--@@ genb
set_option Elab.async false
set_option linter.all false
set_option maxRecDepth 100000
set_option maxHeartbeats 4000000
set_option pp.maxSteps 1500
set_option synthInstance.maxHeartbeats 4000000
set_option synthInstance.maxSize 100000
namespace Bk
open PySem PySem.Spec PyProof.Rows L2 Tg Dw
local macro_rules | `(tactic| walk_at "d") => `(tactic| simp (maxSteps := 4000000) only [DVar, DCon, DLock, DLockV, DCons, DNil, DOp, DOpN, DUn, DTup, DLst, DCB, DCBN, DMt, DMtN, isB, DB, DNot, DAnd, DOr, DAndV, DOrV, DNotV, DIf, DChain, DNext, DSeq, DIfS, DRet, DDrop, DSet, DSetN, GName, GNil, GCons, GTup, DAsgG, DPar, isL, isT, isS, isI, IList, ITup, IStr, IRng1, IRng2, DFor, DLc, DYes, RInt, RIntC, RStr, RCatS, eqC, REq, RNe, isNone, RIsN, RNotN, RInS, RIx, RSlS, ONone, OSome, DSl, DSlN, on1, on2, RLen, RIntOf, RIntS, RStrI, RAbs, RMin2, RMax2, RAll, RAny, NList, RTuple, RReprD, MStarts, MFind, MJoin, tyB, DIs, DIs3, DApp, DCall, DCallX, DRaise, startD, RAdd, RLe, RInX, NCat, RMulX, NSlL, DFzS, DAug, DCallP, startP, wipeD, IItems, DDGet, DDIn, NSortedD, NListD, MDict, DCBM, DParND, DParNN, DPar3N, DPar3, GPut, DPeek, DNe0, DPop, DLenO, DPar3M, DRepl, DDisp1, DNone1, DLam, kD, DMatch, DArms, NSplit, NSortedS, DStar, DDc, flD, inF, eqF, DPeek1, restS, pickS, DLenSet, DSortSet, RDeq, RDne, RDin, DLc2, IEnAt, IKeys, IEnum, IZip, MStarts1, DStarC, DStarS, isStr, ISeq, RCatT, RSlT, RSum, MJoin2, NRep, DParDN, DExt, DListItems, GLst, DPar3DNN, DPutNew, List.length_cons, List.length_nil, List.map_cons, List.map_nil, List.replicate_succ, List.replicate_zero, List.cons_append, List.nil_append, List.getElem?_cons_zero, List.getElem?_cons_succ, List.set_cons_zero, List.set_cons_succ, Nat.reduceAdd, Nat.reduceSub, Nat.zero_add, Bool.not_true, Bool.not_false, Bool.false_eq_true, if_true, if_false, reduceIte, reduceCtorEq, beq_self_eq_true, Bool.true_or, Bool.or_true, Bool.false_or, Bool.or_false, String.reduceBEq, Option.some.injEq, false_and, and_false, exists_const, true_and, and_true, PyData.str.injEq, exists_eq', exists_eq_left', Nat.reduceLeDiff, DV.l.injEq, DV.m.injEq, DV.pot.injEq, List.all_cons, List.all_nil, List.any_cons, List.any_nil, Bool.and_self, Bool.and_true, Bool.true_and, List.zipWith_cons_cons, List.zipWith_nil_right])
theorem sub_strOk {x : Str} (h : PyData.strOk x = true) (i j : Nat) : PyData.strOk (PySem.Builtin.Str.strSub x i j) = true := by
  unfold PyData.strOk PySem.Builtin.Str.strSub at *
  rw [Array.all_eq_true] at *
  intro k hk
  simp only [Array.getElem_extract]
  exact h _ _
theorem partsFrom_strOk {x : Str} (hx : PyData.strOk x = true) (w : Nat) : ∀ (cuts : List Nat) (a : Nat), ∀ p ∈ StrLaws.partsFrom x w a cuts, PyData.strOk p = true
  | [], a, p, hp => by rw [List.mem_singleton.mp hp]; exact sub_strOk hx _ _
  | c :: r, a, p, hp => by
    rcases List.mem_cons.mp hp with rfl | hp'
    · exact sub_strOk hx _ _
    · exact partsFrom_strOk hx w r _ p hp'
theorem part_strOk {x y a : Str} (hx : PyData.strOk x = true) (h : a ∈ Txt.split x y) : PyData.strOk a = true := by
  unfold Txt.split at h
  split at h
  · rw [List.mem_singleton.mp h]; exact hx
  · split at h
    · rw [List.mem_singleton.mp h]; exact hx
    · rw [StrLaws.partsBetween_eq] at h
      exact partsFrom_strOk hx _ _ _ a h
theorem fl_strs (ws : List Str) : (ws.map PyData.str).all flD = true := by simp [flD]
theorem in_strs (x : Str) (ws : List Str) : inF (.str x) (ws.map .str) = decide (x ∈ ws) := by
  unfold inF
  rw [Bool.eq_iff_iff]
  simp [eqF]
section
variable {P : Program} {w : World} {K : PySem.W.Frag} {mg : Str → Option Value} {base : Heap}
def FWords (C : Addr) : DFX := fun ds Kk Ex => ∃ (n : Int) (z : Str), ds = [.int n, .str z] ∧ z.length ≤ 998 ∧ (match wordsIn z with
  | some ws => Kk (.list (ws.map .str))
  | none => Ex C (.int n))
theorem ok_words (T : Tx P K mg) : FnOk P w K mg base (L2.CX P w) 3 T.a_words_in T.fd_words_in ["number", "line"] (spX (FWords T.C_BadBook)) := by
  refine Dw.okX T.F_words_in sc_words_in (fun ds Kk Ex h => ?_) (fun cdv A outer s H E ds Kk Ex ex hr h => ⟨_, _, (pss_cons (ps_set (i := 2) sc_words_in.nd rfl (Or.inl rfl) (pe_fz (pe_bm PySem.F.plainAttrs_str PySem.F.slot_str_split PySem.F.type_str_split mSplit (pv 1) (pa_cons (pe_glob (v := .str " ") (by rfl) T.m_BLANK ⟨_, rfl⟩) pa_nil))))
      (pss_cons (ps_if (pt_cmpR dInX pe_str (pv 2) (by rfl)) (pss_one (ps_raiseD rfl (takes_of rfl rfl rfl rfl) T.e_BadBook T.ini (hr.mono (by first | decide | omega)) (by rfl) T.m_BadBook T.b_ini (pv 0))) pss_nil)
      (pss_one (ps_ret (pv 2))))), inferInstance, ?_⟩)
  · obtain ⟨n, z, rfl, _⟩ := h
    rfl
  obtain ⟨n, z, rfl, lz, k⟩ := h
  walk_at "d"
  refine ⟨by decide, by omega, fl_strs _, ?_⟩
  have e := in_strs (Str.ofString "") (Txt.split z (Str.ofString " "))
  simp only [inF, eqF] at e
  rw [e]
  unfold wordsIn at k
  by_cases h : Str.ofString "" ∈ Txt.split z (Str.ofString " ")
  · rw [if_pos h] at k
    rw [if_pos (by simp [h])]
    exact k
  · rw [if_neg h] at k
    rw [if_neg (by simp [h])]
    exact k
end
end Bk
end
section
--@@ genb
set_option Elab.async false
set_option linter.all false
set_option maxRecDepth 100000
set_option maxHeartbeats 4000000
set_option pp.maxSteps 1500
set_option synthInstance.maxHeartbeats 4000000
set_option synthInstance.maxSize 100000
namespace Bk
open PySem PySem.Spec PyProof.Rows L2 Tg Dw En
local macro_rules | `(tactic| walk_at "d") => `(tactic| simp (maxSteps := 4000000) only [DVar, DCon, DLock, DLockV, DCons, DNil, DOp, DOpN, DUn, DTup, DLst, DCB, DCBN, DMt, DMtN, isB, DB, DNot, DAnd, DOr, DAndV, DOrV, DNotV, DIf, DChain, DNext, DSeq, DIfS, DRet, DDrop, DSet, DSetN, GName, GNil, GCons, GTup, DAsgG, DPar, isL, isT, isS, isI, IList, ITup, IStr, IRng1, IRng2, DFor, DLc, DYes, RInt, RIntC, RStr, RCatS, eqC, REq, RNe, isNone, RIsN, RNotN, RInS, RIx, RSlS, ONone, OSome, DSl, DSlN, on1, on2, RLen, RIntOf, RIntS, RStrI, RAbs, RMin2, RMax2, RAll, RAny, NList, RTuple, RReprD, MStarts, MFind, MJoin, tyB, DIs, DIs3, DApp, DCall, DCallX, DRaise, startD, RAdd, RLe, RInX, NCat, RMulX, NSlL, DFzS, DAug, DCallP, startP, wipeD, IItems, DDGet, DDIn, NSortedD, NListD, MDict, DCBM, DParND, DParNN, DPar3N, DPar3, GPut, DPeek, DNe0, DPop, DLenO, DPar3M, DRepl, DDisp1, DNone1, DLam, kD, DMatch, DArms, NSplit, NSortedS, DStar, DDc, flD, inF, eqF, DPeek1, restS, pickS, DLenSet, DSortSet, RDeq, RDne, RDin, DLc2, IEnAt, IKeys, IEnum, IZip, MStarts1, DStarC, DStarS, isStr, ISeq, RCatT, RSlT, RSum, MJoin2, NRep, DParDN, DExt, DListItems, GLst, DPar3DNN, DPutNew, List.length_cons, List.length_nil, List.map_cons, List.map_nil, List.replicate_succ, List.replicate_zero, List.cons_append, List.nil_append, List.getElem?_cons_zero, List.getElem?_cons_succ, List.set_cons_zero, List.set_cons_succ, Nat.reduceAdd, Nat.reduceSub, Nat.zero_add, Bool.not_true, Bool.not_false, Bool.false_eq_true, if_true, if_false, reduceIte, reduceCtorEq, beq_self_eq_true, Bool.true_or, Bool.or_true, Bool.false_or, Bool.or_false, String.reduceBEq, Option.some.injEq, false_and, and_false, exists_const, true_and, and_true, PyData.str.injEq, exists_eq', exists_eq_left', Nat.reduceLeDiff, DV.l.injEq, DV.m.injEq, DV.pot.injEq, List.all_cons, List.all_nil, List.any_cons, List.any_nil, Bool.and_self, Bool.and_true, Bool.true_and, List.zipWith_cons_cons, List.zipWith_nil_right])
theorem enums_at {k : Int} {xs : List PyData} {i : Nat} {x : PyData} (h : (enums k xs)[i]? = some x) : ∃ y, xs[i]? = some y ∧ x = .tuple [.int (k + (i : Nat)), y] := by
  have hi := (List.getElem?_eq_some_iff.mp h).1
  rw [enums_len] at hi
  refine ⟨xs[i], List.getElem?_eq_getElem hi, ?_⟩
  rw [enums_get (List.getElem?_eq_getElem hi)] at h
  exact (Option.some.inj h).symm
theorem drop_eq (z : Str) : dropS z = ofL ((cs z).drop 2) := cut_from (k := 2)
theorem sub_len {z : Str} : (dropS z).length ≤ z.length := by
  rw [drop_eq, ← len_cs, ← len_cs, cs_ofL, List.length_drop]
  omega
theorem sub_ok {z : Str} (h : PyData.strOk z = true) : PyData.strOk (dropS z) = true := by
  rw [drop_eq]
  unfold PyData.strOk at *
  rw [← Array.all_toList, List.all_eq_true] at *
  intro x hx
  exact h x (List.mem_of_mem_drop hx)
theorem cut01 (ws : List Str) : Dw.cutD (ws.map .str) none (some 1) = (ws.take 1).map .str := by
  unfold Dw.cutD
  rw [show (1 : Int) = ((1 : Nat) : Int) from rfl, HT.sIx_nat, HT.sIx_none, List.drop_zero, Nat.sub_zero, List.length_map, ← List.map_take]
  congr 1
  rw [List.take_eq_take_min (i := 1)]
theorem cut12 (ws : List Str) : Dw.cutD (ws.map .str) (some 1) (some 2) = ((ws.drop 1).take 1).map .str := by
  unfold Dw.cutD
  rw [show (1 : Int) = ((1 : Nat) : Int) from rfl, show (2 : Int) = ((2 : Nat) : Int) from rfl, HT.sIx_nat, HT.sIx_nat, List.length_map, ← List.map_drop, ← List.map_take]
  congr 1
  match ws with
  | [] => rfl
  | [x] => rfl
  | x :: y :: r => simp
theorem cut2 (ws : List Str) : Dw.cutD (ws.map .str) (some 2) none = (ws.drop 2).map .str := by
  unfold Dw.cutD
  rw [show (2 : Int) = ((2 : Nat) : Int) from rfl, HT.sIx_nat, HT.sIx_none, List.length_map, ← List.map_drop, ← List.map_take]
  congr 1
  match ws with
  | [] => rfl
  | [x] => rfl
  | x :: y :: r => simp
theorem okE_may : okE (.tuple [.list [], .list [.str (Str.ofString "?")]]) = true := by decide +kernel
theorem go_step {a b : Nat} {m : Int} {ls : List Str} {i : Nat} {z : Str} {rows : List (List Str)} (h : ls[i]? = some z) : deepGo a b m (ls.drop i) rows = match wordsIn (dropS z) with
    | none => .error m
    | some ws => if rowOk a b (rows.map fun w => w.headD (Str.ofString "")) ws = true then deepGo a b (m + 1) (ls.drop (i + 1)) (rows ++ [ws]) else .error m := by
  have hi := (List.getElem?_eq_some_iff.mp h)
  rw [List.drop_eq_getElem_cons hi.1, hi.2]
  rfl
section
variable {P : Program} {w : World} {K : PySem.W.Frag} {mg : Str → Option Value} {base : Heap}
def encR (r : List Str) : PyData := .list (r.map .str)
def hd0 : PyData → Str
  | .list (.str x :: _) => x
  | _ => Str.ofString ""
theorem hd0_enc (r : List Str) : hd0 (encR r) = r.headD (Str.ofString "") := by cases r <;> rfl
theorem heads_enc (rows : List (List Str)) : (rows.map encR).map (fun d => PyData.str (hd0 d)) = (rows.map fun w => w.headD (Str.ofString "")).map .str := by
  rw [List.map_map, List.map_map]
  apply List.map_congr_left
  intro r _
  simp [hd0_enc]
theorem map_at {α β : Type} {f : α → β} {l : List α} {i : Nat} {y : β} (h : (l.map f)[i]? = some y) : ∃ x, l[i]? = some x ∧ y = f x := by
  rw [List.getElem?_map] at h
  cases q : l[i]? with
  | none => rw [q] at h; cases h
  | some x =>
    rw [q] at h
    exact ⟨x, rfl, (Option.some.inj h).symm⟩
def Lines (ls : List Str) : Prop := ls.length ≤ 900 ∧ ∀ z ∈ ls, z.length ≤ 998 ∧ PyData.strOk z = true
def FDeep (C : Addr) : DFX := fun ds Kk Ex => ∃ (n : Int) (ls : List Str) (a b : Nat), ds = [.int n, .list (ls.map .str), .int a, .int b] ∧ 0 ≤ n ∧ n ≤ 100000 ∧ Lines ls ∧ 2 ≤ a ∧ (match deepGo a b (n + 1) ls [] with
  | .ok rows => Kk (.list (rows.map encR))
  | .error m => Ex C (.int m))
theorem ok_deep (T : Tx P K mg) : FnOk P w K mg base (L2.CX P w) 4 T.a_deeper_rows T.fd_deeper_rows ["number", "deeper", "least", "most"] (spX (FDeep T.C_BadBook)) := by
  have G_are_names := ok_names (w := w) (base := base) T
  have G_words_in := ok_words (w := w) (base := base) T
  refine Dw.okX T.F_deeper_rows sc_deeper_rows (fun ds Kk Ex h => ?_) (fun cdv A outer s H E ds Kk Ex ex hr h => ⟨_, _, (pss_cons (ps_set (i := 4) sc_deeper_rows.nd rfl (Or.inl rfl) (pe_lst pa_nil))
      (pss_cons (ps_for (passes_of rfl) rfl (pi_enumAt (by rfl) T.n_enumerate (pa_cons (pv 1) (pa_cons (pe_op dAddX (pv 0) pe_int) pa_nil))) (pg_tup (n := 2) rfl (pgs_cons (pg_name (i := 5) sc_deeper_rows.nd rfl (Or.inl rfl)) (pgs_cons (pg_name (i := 6) sc_deeper_rows.nd rfl (Or.inl rfl)) pgs_nil))) (pss_cons (ps_set (i := 7) sc_deeper_rows.nd rfl (Or.inl rfl) (pe_call G_words_in (hr.mono (by first | decide | omega)) (by rfl) T.m_words_in T.F_words_in.kp T.b_words_in .nil (passes_call (takes_of rfl rfl rfl rfl) fun _ _ _ _ h => h) (pa_cons (pv 5) (pa_cons (pe_slice dSlS (pv 6) (po_some (pe_callB dLen (by rfl) T.n_len PyProof.Rows.Boot.«len» (pa_cons (pe_glob (v := .str "  ") (by rfl) T.m_DEEPER ⟨_, rfl⟩) pa_nil))) po_none) pa_nil))))
      (pss_cons (ps_if (PW.pt (pw_or (pt_not (pt_chain dLeX dLeX (pv 2) (pe_callB dLen (by rfl) T.n_len PyProof.Rows.Boot.«len» (pa_cons (pv 7) pa_nil)) (pv 3))) (pw_or (pt_not (pt_val (pe_call G_are_names (hr.mono (by first | decide | omega)) (by rfl) T.m_are_names T.F_are_names.kp T.b_are_names .nil pass0 (pa_cons (pe_fz (pe_slice dSlL (pv 7) po_none (po_some pe_int))) pa_nil)))) (pw_or1 (pt_not (pt_val (pe_call G_are_names (hr.mono (by first | decide | omega)) (by rfl) T.m_are_names T.F_are_names.kp T.b_are_names .nil pass0 (pa_cons (pe_fz (pe_slice dSlL (pv 7) (po_some pe_int) (po_some (pe_glob (v := .int 2) (by rfl) T.m_PAIR ⟨_, rfl⟩)))) pa_nil)))))))) (pss_one (ps_raiseD rfl (takes_of rfl rfl rfl rfl) T.e_BadBook T.ini (hr.mono (by first | decide | omega)) (by rfl) T.m_BadBook T.b_ini (pv 5))) pss_nil)
      (pss_cons (ps_if (PW.pt (pw_or (pt_lk 4 (pt_cmpR dInX (pe_ix dIx (pv 7) pe_int (fun _ _ => rfl)) (pe_fz (pe_lc (own := [("row", 8)]) (g := gName 8) (tt := tYes) (by rfl) sc_deeper_rows.nd (pi_list (pv 4)) (blkOk_by (own := [("row", 8)]) (N := ["number", "deeper", "least", "most", "found", "at", "line", "words", "row"]) (sc := defScope s_deeper_rows) (by decide +kernel)) (fun _ _ _ _ _ => (pg_name (i := 8) sc_deeper_rows.nd rfl (Or.inl rfl))) (fun _ _ _ _ _ => pts_nil) (fun _ _ _ _ _ => (pe_ix dIx (pv 8) pe_int (fun _ _ => rfl))))) (by rfl))) (pw_or1 (pt_cmpR (dNotInD (h65 hr)) (pe_fz (pe_slice dSlL (pv 7) (po_some (pe_glob (v := .int 2) (by rfl) T.m_PAIR ⟨_, rfl⟩)) po_none)) (pe_tup (pa_cons (pe_fz (pe_lst pa_nil)) (pa_cons (pe_fz (pe_lst (pa_cons (pe_glob (v := .str "?") (by rfl) T.m_MAYBE ⟨_, rfl⟩) pa_nil))) pa_nil))) (by rfl))))) (pss_one (ps_raiseD rfl (takes_of rfl rfl rfl rfl) T.e_BadBook T.ini (hr.mono (by first | decide | omega)) (by rfl) T.m_BadBook T.b_ini (pv 5))) pss_nil)
      (pss_one (ps_expr (pe_bm PySem.F.plainAttrs_list PySem.F.slot_list_append PySem.F.type_list_append mt_append (pv 4) (pa_cons (pv 7) pa_nil))))))))
      (pss_one (ps_ret (pe_fz (pv 4)))))), inferInstance, ?_⟩)
  · obtain ⟨n, ls, a, b, rfl, _⟩ := h
    rfl
  obtain ⟨n, ls, a, b, rfl, n0, n1, hl, ha, k⟩ := h
  generalize hU : DSeq (DIfS _ _ _) _ = UU
  walk_at "d"
  refine ⟨by omega, fun i ρ => ∃ rows x5 x6 x7, ρ = [some (.d (.int n)), some (.d (.list (ls.map .str))), some (.d (.int a)), some (.d (.int b)), some (.l (rows.map encR)), x5, x6, x7, none] ∧ deepGo a b (n + 1) ls [] = deepGo a b (n + 1 + i) (ls.drop i) rows ∧ (∀ r ∈ rows, r ≠ []) ∧ rows.length ≤ i, ⟨[], _, _, _, rfl, by simp, by simp, by simp⟩, ?_, ?_⟩
  · rintro i x ρ hx ⟨rows, x5, x6, x7, rfl, hg, hn, hi⟩
    obtain ⟨y, hy, rfl⟩ := enums_at hx
    obtain ⟨z, hz, rfl⟩ := map_strs hy
    have lz := hl.2 z (List.mem_of_getElem? hz)
    have li : i < ls.length := (List.getElem?_eq_some_iff.mp hz).1
    rw [hg, go_step hz] at k
    walk_at "d"
    refine ⟨by decide, by omega, _, _, rfl, Nat.le_trans (sub_len (z := z)) lz.1, ?_⟩
    rw [show cutS z (some ((Str.ofString "  ").length : Int)) none = dropS z from rfl]
    cases hw : wordsIn (dropS z) with
    | none =>
      rw [hw] at k
      exact k
    | some ws =>
      rw [hw] at k
      have hws : ws = Txt.split (dropS z) (Str.ofString " ") := by
        unfold wordsIn at hw
        split at hw
        · cases hw
        · exact (Option.some.inj hw).symm
      have w1 : ws.length ≤ 1000 := by rw [hws]; have := split_le (dropS z) (Str.ofString " "); have := sub_len (z := z); omega
      have w2 : ∀ x ∈ ws, x.length ≤ 998 ∧ PyData.strOk x = true := fun x hx => by
        rw [hws] at hx
        have := part_short hx
        have := sub_len (z := z)
        exact ⟨by omega, part_strOk (sub_ok lz.2) hx⟩
      dsimp only at k
      rw [← hU]
      have hbad : rowOk a b (rows.map fun w => w.headD (Str.ofString "")) ws = false → Ex T.C_BadBook (.int (n + 1 + i)) := fun h => by
        rw [if_neg (by rw [h]; decide)] at k
        exact k
      clear k
      have hsh : ∀ l : List Str, (∀ x ∈ l, x ∈ ws) → l.length ≤ 1000 → Short l := fun l h1 h2 => ⟨h2, fun x hx => by have := (w2 x (h1 x hx)).1; omega⟩
      walk_at "d"
      by_cases h1 : a ≤ ws.length ∧ ws.length ≤ b
      · rw [if_pos (by rw [List.length_map, decide_eq_true_eq]; omega), if_neg (by rw [List.length_map]; simp; omega)]
        refine ⟨ws.take 1, by rw [cut01], hsh _ (fun x hx => List.mem_of_mem_take hx) (by rw [List.length_take]; omega), ?_⟩
        cases h2 : areNames (ws.take 1) with
        | false => exact hbad (by unfold rowOk; rw [h2]; simp)
        | true =>
          dsimp only
          rw [if_neg (by simp)]
          refine ⟨(ws.drop 1).take 1, by rw [cut12], hsh _ (fun x hx => List.mem_of_mem_drop (List.mem_of_mem_take hx)) (by rw [List.length_take]; omega), ?_⟩
          cases h3 : areNames ((ws.drop 1).take 1) with
          | false => exact hbad (by unfold rowOk; rw [h3]; simp)
          | true =>
            dsimp only
            rw [if_neg (by simp)]
            obtain ⟨w0, wr, rfl⟩ : ∃ w0 wr, ws = w0 :: wr := by
              cases ws with
              | nil => simp at h1; omega
              | cons x r => exact ⟨x, r, rfl⟩
            refine ⟨.str w0, at_nat (i := 0) rfl, ?_⟩
            refine lc_map (fun d => .str (hd0 d)) (fun j y hy Q hQ => ?_) ?_ (by rw [List.length_map]; have := hl.1; omega)
            · obtain ⟨r, hr2, rfl⟩ := map_at hy
              obtain ⟨r0, rr, rfl⟩ : ∃ w0 wr, r = w0 :: wr := by
                cases r with
                | nil => exact absurd rfl (hn [] (List.mem_of_getElem? hr2))
                | cons x r => exact ⟨x, r, rfl⟩
              rw [show encR (r0 :: rr) = .list (.str r0 :: rr.map .str) from rfl]
              walk_at "d"
              exact ⟨.str r0, at_nat (i := 0) rfl, hQ _ rfl⟩
            · rw [heads_enc]
              walk_at "d"
              refine ⟨fl_strs _, rfl, ?_⟩
              have e := in_strs w0 (rows.map fun w => w.headD (Str.ofString ""))
              simp only [inF, eqF] at e
              rw [e]
              clear e
              have ec := cut2 (w0 :: wr)
              rw [List.map_cons] at ec
              rw [ec]
              have dk : ∀ x ∈ (w0 :: wr).drop 2, PyData.strOk x = true := fun x hx => (w2 x (List.mem_of_mem_drop hx)).2
              by_cases h4 : w0 ∈ rows.map fun w => w.headD (Str.ofString "")
              · rw [if_pos (decide_eq_true h4)]
                refine hbad ?_
                unfold rowOk
                rw [show (w0 :: wr).headD (Str.ofString "") = w0 from rfl, List.contains_iff_mem.mpr h4]
                simp
              · rw [if_neg (by rw [decide_eq_false h4]; decide)]
                refine ⟨okE_strs dk, okE_may, ?_⟩
                rw [show PyData.list [PyData.str (Str.ofString "?")] = .list ((maybe).map .str) from rfl, show PyData.list [] = .list (([] : List Str).map .str) from rfl, eqv_strs, eqv_strs]
                by_cases h5 : (w0 :: wr).drop 2 = [] ∨ (w0 :: wr).drop 2 = maybe
                · rw [if_neg (by rcases h5 with h5 | h5 <;> simp [h5])]
                  have hgood : rowOk a b (rows.map fun w => w.headD (Str.ofString "")) (w0 :: wr) = true := by
                    unfold rowOk
                    rw [show (w0 :: wr).headD (Str.ofString "") = w0 from rfl, Bool.eq_false_iff.mpr (fun q => h4 (List.contains_iff_mem.mp q)), h2, h3, decide_eq_true h1.1, decide_eq_true h1.2]
                    rcases h5 with h5 | h5 <;> simp [h5]
                  refine ⟨by rw [List.length_map]; have := hl.1; omega, rows ++ [w0 :: wr], _, _, _, by rw [List.map_append]; rfl, hg.trans ((go_step hz).trans ?_), ?_, ?_⟩
                  · rw [hw]
                    dsimp only
                    rw [if_pos hgood]
                    congr 1
                    omega
                  · intro r hr2
                    rcases List.mem_append.mp hr2 with q | q
                    · exact hn r q
                    · rw [List.mem_singleton.mp q]; exact fun z => nomatch z
                  · rw [List.length_append, List.length_singleton]; omega
                · rw [if_pos (by have h6 := not_or.mp h5; rw [decide_eq_false (fun q => h6.1 q.symm), decide_eq_false (fun q => h6.2 q.symm)]; rfl)]
                  refine hbad ?_
                  unfold rowOk
                  have h6 := not_or.mp h5
                  rw [decide_eq_false h6.1, decide_eq_false h6.2]
                  simp
      · by_cases h2 : a ≤ ws.length
        · rw [if_pos (by rw [List.length_map, decide_eq_true_eq]; omega), if_pos (by rw [List.length_map]; simp; omega)]
          exact hbad (by unfold rowOk; rw [decide_eq_false (p := ws.length ≤ b) (by omega)]; simp)
        · rw [if_neg (by rw [List.length_map, decide_eq_true_eq]; omega)]
          exact hbad (by unfold rowOk; rw [decide_eq_false (p := a ≤ ws.length) h2]; simp)
  · rintro ρ ⟨rows, x5, x6, x7, rfl, hg, hn, hi⟩
    rw [enums_len, List.length_map, List.drop_length] at hg
    rw [hg] at k
    exact k
end
end Bk
end
section
--@@ genb
set_option Elab.async false
set_option linter.all false
set_option maxRecDepth 100000
set_option maxHeartbeats 4000000
set_option pp.maxSteps 3000
set_option synthInstance.maxHeartbeats 4000000
set_option synthInstance.maxSize 100000
namespace Bk
open PySem PySem.Spec PyProof.Rows L2 Tg Dw En
local macro_rules | `(tactic| walk_at "d") => `(tactic| simp (maxSteps := 4000000) only [DVar, DCon, DLock, DLockV, DCons, DNil, DOp, DOpN, DUn, DTup, DLst, DCB, DCBN, DMt, DMtN, isB, DB, DNot, DAnd, DOr, DAndV, DOrV, DNotV, DIf, DChain, DNext, DSeq, DIfS, DRet, DDrop, DSet, DSetN, GName, GNil, GCons, GTup, DAsgG, DPar, isL, isT, isS, isI, IList, ITup, IStr, IRng1, IRng2, DFor, DLc, DYes, RInt, RIntC, RStr, RCatS, eqC, REq, RNe, isNone, RIsN, RNotN, RInS, RIx, RSlS, ONone, OSome, DSl, DSlN, on1, on2, RLen, RIntOf, RIntS, RStrI, RAbs, RMin2, RMax2, RAll, RAny, NList, RTuple, RReprD, MStarts, MFind, MJoin, tyB, DIs, DIs3, DApp, DCall, DCallX, DRaise, startD, RAdd, RLe, RInX, NCat, RMulX, NSlL, DFzS, DAug, DCallP, startP, wipeD, IItems, DDGet, DDIn, NSortedD, NListD, MDict, DCBM, DParND, DParNN, DPar3N, DPar3, GPut, DPeek, DNe0, DPop, DLenO, DPar3M, DRepl, DDisp1, DNone1, DLam, kD, DMatch, DArms, NSplit, NSortedS, DStar, DDc, flD, inF, eqF, DPeek1, restS, pickS, DLenSet, DSortSet, RDeq, RDne, RDin, DLc2, IEnAt, IKeys, IEnum, IZip, MStarts1, DStarC, DStarS, isStr, ISeq, RCatT, RSlT, RSum, MJoin2, NRep, DParDN, DExt, DListItems, GLst, DPar3DNN, DPutNew, List.length_cons, List.length_nil, List.map_cons, List.map_nil, List.replicate_succ, List.replicate_zero, List.cons_append, List.nil_append, List.getElem?_cons_zero, List.getElem?_cons_succ, List.set_cons_zero, List.set_cons_succ, Nat.reduceAdd, Nat.reduceSub, Nat.zero_add, Bool.not_true, Bool.not_false, Bool.false_eq_true, if_true, if_false, reduceIte, reduceCtorEq, beq_self_eq_true, Bool.true_or, Bool.or_true, Bool.false_or, Bool.or_false, String.reduceBEq, Option.some.injEq, false_and, and_false, exists_const, true_and, and_true, PyData.str.injEq, exists_eq', exists_eq_left', Nat.reduceLeDiff, DV.l.injEq, DV.m.injEq, DV.pot.injEq, List.all_cons, List.all_nil, List.any_cons, List.any_nil, Bool.and_self, Bool.and_true, Bool.true_and, List.zipWith_cons_cons, List.zipWith_nil_right])
theorem deep_ok {a b : Nat} : ∀ (ls : List Str) (m : Int) (found rows : List (List Str)), deepGo a b m ls found = .ok rows → (∀ r ∈ found, a ≤ r.length ∧ r.length ≤ b) → (∀ r ∈ rows, a ≤ r.length ∧ r.length ≤ b) ∧ rows.length = found.length + ls.length
  | [], m, found, rows, h, hf => by
    rw [deepGo] at h
    cases h
    exact ⟨hf, rfl⟩
  | z :: ls, m, found, rows, h, hf => by
    rw [deepGo] at h
    split at h
    · cases h
    · rename_i ws hw
      split at h
      · rename_i hr
        have h1 : a ≤ ws.length ∧ ws.length ≤ b := by
          unfold rowOk at hr
          simp only [Bool.and_eq_true, decide_eq_true_eq] at hr
          omega
        obtain ⟨q1, q2⟩ := deep_ok ls _ _ _ h (fun r hr => by
          rcases List.mem_append.mp hr with q | q
          · exact hf r q
          · rw [List.mem_singleton.mp q]; exact h1)
        refine ⟨q1, ?_⟩
        rw [q2, List.length_append, List.length_singleton, List.length_cons]
        omega
      · cases h
theorem not_none (f : Form) : isNone (encF f) = false := by cases f <;> rfl
theorem okE_open : okE (.tuple [.list [], .list [.str (Str.ofString "open")]]) = true := by decide +kernel
theorem okE_op1 : okE (.list [.str (Str.ofString "open")]) = true := by decide +kernel
def rw3 (d : PyData) : PyData := match d with
  | .list (x :: y :: r) => .tuple [x, y, .bool (decide (r = []))]
  | _ => .none
def rw2 (d : PyData) : PyData := match d with
  | .list (x :: y :: r) => .tuple [x, y]
  | _ => .none
theorem two_of {r : List Str} (h : 2 ≤ r.length) : ∃ x y q, r = x :: y :: q := by
  match r, h with
  | x :: y :: q, _ => exact ⟨x, y, q, rfl⟩
section
variable {P : Program} {w : World} {K : PySem.W.Frag} {mg : Str → Option Value} {base : Heap}
def FForm (C : Addr) : DFX := fun ds Kk Ex => ∃ (n : Int) (ws ls : List Str), ds = [.int n, .list (ws.map .str), .list (ls.map .str)] ∧ 0 ≤ n ∧ n ≤ 90000 ∧ 2 ≤ ws.length ∧ ws.length ≤ 1000 ∧ (∀ x ∈ ws, x.length ≤ 998 ∧ PyData.strOk x = true) ∧ Lines ls ∧ (match formIn n ws ls with
  | .ok f => Kk (encF f)
  | .error m => Ex C (.int m))
theorem ok_form (T : Tx P K mg) : FnOk P w K mg base (L2.CX P w) 6 T.a_form_in T.fd_form_in ["number", "words", "deeper"] (spX (FForm T.C_BadBook)) := by
  have G_is_name := ok_name (w := w) (base := base) T
  have G_flat_form := ok_flatF (w := w) (base := base) T
  have G_deeper_rows := ok_deep (w := w) (base := base) T
  refine Dw.okX T.F_form_in sc_form_in (fun ds Kk Ex h => ?_) (fun cdv A outer s H E ds Kk Ex ex hr h => ⟨_, _, (pss_cons (ps_par (i := 3) (j := 4) (by rfl) sc_form_in.nd rfl rfl (by decide) rfl rfl (pa_cons (pe_ix dIx (pv 1) pe_int (fun _ _ => rfl)) (pa_cons (pe_fz (pe_slice dSlL (pv 1) (po_some (pe_glob (v := .int 2) (by rfl) T.m_PAIR ⟨_, rfl⟩)) po_none)) pa_nil)) (by rfl))
      (pss_cons (ps_if (PW.pt (pw_and (pt_cmpR dEq (pv 3) (pe_glob (v := .str "record") (by rfl) T.m_RECORD ⟨_, rfl⟩) (nomark _)) (pw_and1 (pt_cmpR (dInD (h65 hr)) (pv 4) (pe_tup (pa_cons (pe_fz (pe_lst pa_nil)) (pa_cons (pe_fz (pe_lst (pa_cons (pe_glob (v := .str "open") (by rfl) T.m_OPEN ⟨_, rfl⟩) pa_nil))) pa_nil))) (by rfl))))) (pss_cons (ps_set (i := 5) sc_form_in.nd rfl (Or.inl rfl) (pe_call G_deeper_rows (hr.mono (by first | decide | omega)) (by rfl) T.m_deeper_rows T.F_deeper_rows.kp T.b_deeper_rows .nil (passes_call (takes_of rfl rfl rfl rfl) fun _ _ _ _ h => h) (pa_cons (pv 0) (pa_cons (pv 2) (pa_cons (pe_glob (v := .int 2) (by rfl) T.m_PAIR ⟨_, rfl⟩) (pa_cons (pe_glob (v := .int 3) (by rfl) T.m_TRIPLE ⟨_, rfl⟩) pa_nil))))))
      (pss_one (ps_ret (pe_tup (pa_cons (pe_glob (v := .str "record") (by rfl) T.m_RECORD ⟨_, rfl⟩) (pa_cons (pe_cmpR (dEqD (h64 hr)) (pv 4) (pe_fz (pe_lst (pa_cons (pe_glob (v := .str "open") (by rfl) T.m_OPEN ⟨_, rfl⟩) pa_nil))) (nomark _)) (pa_cons (pe_callTy dTuple (by rfl) T.n_tuple PyProof.Rows.Boot.«tuple» (pa_cons (pe_fz (pe_lc (own := [("row", 7)]) (g := gName 7) (tt := tYes) (by rfl) sc_form_in.nd (pi_list (pv 5)) (blkOk_by (own := [("row", 7)]) (N := ["number", "words", "deeper", "head", "rest", "rows", "form", "row"]) (sc := defScope s_form_in) (by decide +kernel)) (fun _ _ _ _ _ => (pg_name (i := 7) sc_form_in.nd rfl (Or.inl rfl))) (fun _ _ _ _ _ => pts_nil) (fun _ _ _ _ _ => (pe_tup (pa_cons (pe_ix dIx (pv 7) pe_int (fun _ _ => rfl)) (pa_cons (pe_ix dIx (pv 7) pe_int (fun _ _ => rfl)) (pa_cons (pe_cmpR dEq (pe_callB dLen (by rfl) T.n_len PyProof.Rows.Boot.«len» (pa_cons (pv 7) pa_nil)) (pe_glob (v := .int 2) (by rfl) T.m_PAIR ⟨_, rfl⟩) (nomark _)) pa_nil))))))) pa_nil)) pa_nil))))))) pss_nil)
      (pss_cons (ps_if (PW.pt (pw_and (pt_cmpR dEq (pv 3) (pe_glob (v := .str "tagged") (by rfl) T.m_TAGGED ⟨_, rfl⟩) (nomark _)) (pw_and (pt_cmpR dEq (pe_callB dLen (by rfl) T.n_len PyProof.Rows.Boot.«len» (pa_cons (pv 4) pa_nil)) pe_int (nomark _)) (pw_and1 (pt_val (pe_call G_is_name (hr.mono (by first | decide | omega)) (by rfl) T.m_is_name T.F_is_name.kp T.b_is_name .nil pass0 (pa_cons (pe_ix dIx (pv 4) pe_int (fun _ _ => rfl)) pa_nil))))))) (pss_cons (ps_if (pt_cmpR (dEqD (h64 hr)) (pv 2) (pe_fz (pe_lst pa_nil)) (nomark _)) (pss_one (ps_raiseD rfl (takes_of rfl rfl rfl rfl) T.e_BadBook T.ini (hr.mono (by first | decide | omega)) (by rfl) T.m_BadBook T.b_ini (pe_op dAddX (pv 0) pe_int))) pss_nil)
      (pss_one (ps_ret (pe_tup (pa_cons (pe_glob (v := .str "tagged") (by rfl) T.m_TAGGED ⟨_, rfl⟩) (pa_cons (pe_ix dIx (pv 4) pe_int (fun _ _ => rfl)) (pa_cons (pe_callTy dTuple (by rfl) T.n_tuple PyProof.Rows.Boot.«tuple» (pa_cons (pe_fz (pe_lc (own := [("row", 7)]) (g := gName 7) (tt := tYes) (by rfl) sc_form_in.nd (pi_list (pe_call G_deeper_rows (hr.mono (by first | decide | omega)) (by rfl) T.m_deeper_rows T.F_deeper_rows.kp T.b_deeper_rows .nil (passes_call (takes_of rfl rfl rfl rfl) fun _ _ _ _ h => h) (pa_cons (pv 0) (pa_cons (pv 2) (pa_cons (pe_glob (v := .int 2) (by rfl) T.m_PAIR ⟨_, rfl⟩) (pa_cons (pe_glob (v := .int 2) (by rfl) T.m_PAIR ⟨_, rfl⟩) pa_nil)))))) (blkOk_by (own := [("row", 7)]) (N := ["number", "words", "deeper", "head", "rest", "rows", "form", "row"]) (sc := defScope s_form_in) (by decide +kernel)) (fun _ _ _ _ _ => (pg_name (i := 7) sc_form_in.nd rfl (Or.inl rfl))) (fun _ _ _ _ _ => pts_nil) (fun _ _ _ _ _ => (pe_tup (pa_cons (pe_ix dIx (pv 7) pe_int (fun _ _ => rfl)) (pa_cons (pe_ix dIx (pv 7) pe_int (fun _ _ => rfl)) pa_nil)))))) pa_nil)) pa_nil))))))) pss_nil)
      (pss_cons (ps_set (i := 6) sc_form_in.nd rfl (Or.inl rfl) (pe_call G_flat_form (hr.mono (by first | decide | omega)) (by rfl) T.m_flat_form T.F_flat_form.kp T.b_flat_form .nil pass0 (pa_cons (pe_fz (pe_lst (pa_cons (pv 3) (StX.pa_star (pv 4) pa_nil)))) pa_nil)))
      (pss_cons (ps_if (pt_cmpR dIsN (pv 6) pe_non (nomark _)) (pss_one (ps_raiseD rfl (takes_of rfl rfl rfl rfl) T.e_BadBook T.ini (hr.mono (by first | decide | omega)) (by rfl) T.m_BadBook T.b_ini (pv 0))) pss_nil)
      (pss_cons (ps_if (pt_cmpR (dNeD (h64 hr)) (pv 2) (pe_fz (pe_lst pa_nil)) (nomark _)) (pss_one (ps_raiseD rfl (takes_of rfl rfl rfl rfl) T.e_BadBook T.ini (hr.mono (by first | decide | omega)) (by rfl) T.m_BadBook T.b_ini (pe_op dAddX (pv 0) pe_int))) pss_nil)
      (pss_one (ps_ret (pv 6))))))))), inferInstance, ?_⟩)
  · obtain ⟨n, ws, ls, rfl, _⟩ := h
    rfl
  obtain ⟨n, ws, ls, rfl, n0, n1, l2, lw, hw, hl, k⟩ := h
  obtain ⟨h0, h1, rest, rfl⟩ := two_of l2
  have w0 := hw h0 (by simp)
  have wr : ∀ x ∈ rest, x.length ≤ 998 ∧ PyData.strOk x = true := fun x hx => hw x (by simp [hx])
  have rk : ∀ x ∈ rest, PyData.strOk x = true := fun x hx => (wr x hx).2
  have lk : ∀ x ∈ ls, PyData.strOk x = true := fun x hx => (hl.2 x hx).2
  have lr : rest.length + 2 ≤ 1000 := by simpa using lw
  have ec := cut2 (h0 :: h1 :: rest)
  simp only [List.map_cons, List.drop_succ_cons, List.drop_zero] at ec
  unfold formIn at k
  rw [show word0 (h0 :: h1 :: rest) = h0 from rfl, show (h0 :: h1 :: rest).drop 2 = rest from rfl] at k
  generalize hF : DSeq (DSet 6 _) _ = UF
  generalize hT : DSeq (DIfS (DAnd (DB (DOp REq (DVar 3) (DCon (PyData.str (Str.ofString "tagged"))))) _) _ _) _ = UT
  have flat : (match (match flatForm h0 rest with
      | none => .error n
      | some f => if ls ≠ [] then .error (n + 1) else .ok f : Except Int Form) with
      | .ok f => Kk (encF f)
      | .error m => Ex T.C_BadBook (.int m)) → UF { nx := fun _ => Kk .none, rt := fun d _ => Kk d } [some (.d (.int n)), some (.d (.list (.str h0 :: .str h1 :: rest.map .str))), some (.d (.list (ls.map .str))), some (.d (.str h0)), some (.d (.list (rest.map .str))), none, none, none] := by
    intro k
    rw [← hF]
    walk_at "d"
    refine ⟨by rw [List.length_append, List.length_map, List.length_nil]; omega, h0, rest, by rw [List.append_nil]; rfl, ⟨by omega, fun x hx => by have := (wr x hx).1; omega⟩, by omega, rk, ?_⟩
    cases hf : flatForm h0 rest with
    | none =>
      rw [hf] at k
      exact k
    | some f =>
      rw [hf] at k
      rw [show optF (some f) = encF f from rfl]
      change if isNone (encF f) = true then Ex T.C_BadBook (.int n) else _
      rw [not_none, if_neg (by decide)]
      refine ⟨okE_strs lk, okE_nil, ?_⟩
      rw [eqv_nil]
      by_cases hls : ls = []
      · rw [if_neg (by simp [hls])]
        dsimp only at k
        rw [if_neg (by simp [hls])] at k
        exact k
      · rw [if_pos (by simp [hls])]
        dsimp only at k
        rw [if_pos hls] at k
        exact k
  have tagd : (match (if h0 = Str.ofString "tagged" ∧ rest.length = 1 ∧ isNmS (word0 rest) = true then (if ls = [] then .error (n + 1) else match deepGo 2 2 (n + 1) ls [] with
    | .error n => .error n
    | .ok rows => .ok (.tagged (word0 rest) (rows.map fun r => (word0 r, word1 r)))) else (match flatForm h0 rest with
      | none => .error n
      | some f => if ls ≠ [] then .error (n + 1) else .ok f) : Except Int Form) with
      | .ok f => Kk (encF f)
      | .error m => Ex T.C_BadBook (.int m)) → UT { nx := fun _ => Kk .none, rt := fun d _ => Kk d } [some (.d (.int n)), some (.d (.list (.str h0 :: .str h1 :: rest.map .str))), some (.d (.list (ls.map .str))), some (.d (.str h0)), some (.d (.list (rest.map .str))), none, none, none] := by
    intro k
    rw [← hT]
    walk_at "d"
    rw [List.length_map]
    by_cases c1 : h0 = Str.ofString "tagged"
    · rw [if_pos (decide_eq_true c1)]
      by_cases c2 : rest.length = 1
      · rw [if_pos (by rw [decide_eq_true_eq]; omega)]
        obtain ⟨r0, rfl⟩ : ∃ r0, rest = [r0] := List.length_eq_one_iff.mp c2
        refine ⟨.str r0, at_nat (i := 0) rfl, .str r0, rfl, fun z e => by cases e; have := (wr r0 (by simp)).1; omega, ?_⟩
        rw [show word0 [r0] = r0 from rfl] at k
        cases c3 : isNmS r0 with
        | false =>
          rw [show isNm (.str r0) = false from c3]
          rw [if_neg (fun q => by rw [c3] at q; exact absurd q.2.2 (by decide))] at k
          exact flat k
        | true =>
          rw [show isNm (.str r0) = true from c3]
          rw [if_pos ⟨c1, c2, c3⟩] at k
          dsimp only
          rw [if_pos rfl]
          refine ⟨okE_strs lk, okE_nil, ?_⟩
          rw [eqv_nil]
          by_cases hls : ls = []
          · rw [if_pos hls] at k
            rw [if_pos (decide_eq_true hls)]
            exact k
          · rw [if_neg hls] at k
            rw [if_neg (by simp [hls])]
            refine ⟨.str r0, at_nat (i := 0) rfl, n, ls, 2, 2, rfl, n0, by omega, hl, by omega, ?_⟩
            cases hg : deepGo 2 2 (n + 1) ls [] with
            | error m => rw [hg] at k; exact k
            | ok rows =>
              rw [hg] at k
              dsimp only
              obtain ⟨q1, q2⟩ := deep_ok ls _ _ _ hg (by simp)
              refine lc_map rw2 (fun j y hy Q hQ => ?_) ?_ (by rw [List.length_map]; have := hl.1; simp at q2; omega)
              · obtain ⟨r, hr2, rfl⟩ := map_at hy
                obtain ⟨x, y, q, rfl⟩ := two_of (q1 r (List.mem_of_getElem? hr2)).1
                rw [show encR (x :: y :: q) = .list (.str x :: .str y :: q.map .str) from rfl]
                walk_at "d"
                exact ⟨.str x, at_nat (i := 0) rfl, .str y, at_nat (i := 1) rfl, hQ _ rfl⟩
              · dsimp only
                have e : (rows.map encR).map rw2 = (rows.map fun r => (word0 r, word1 r)).map fun r => .tuple [.str r.1, .str r.2] := by
                  rw [List.map_map, List.map_map]
                  apply List.map_congr_left
                  intro r hr2
                  obtain ⟨x, y, q, rfl⟩ := two_of (q1 r hr2).1
                  rfl
                rw [e]
                exact k
      · rw [if_neg (by rw [decide_eq_true_eq]; omega)]
        rw [if_neg (fun q => c2 q.2.1)] at k
        exact flat k
    · rw [if_neg (by rw [decide_eq_true_eq]; exact c1)]
      rw [if_neg (fun q => c1 q.1)] at k
      exact flat k
  walk_at "d"
  refine ⟨.str h0, at_nat (i := 0) rfl, ?_⟩
  rw [ec]
  dsimp only
  by_cases c1 : h0 = Str.ofString "record"
  · rw [if_pos (decide_eq_true c1)]
    refine ⟨okE_strs rk, okE_open, ?_⟩
    rw [show PyData.list [PyData.str (Str.ofString "open")] = .list (([Str.ofString "open"] : List Str).map .str) from rfl, show PyData.list [] = .list (([] : List Str).map .str) from rfl, eqv_strs, eqv_strs]
    by_cases c2 : rest = [] ∨ rest = [Str.ofString "open"]
    · rw [if_pos (by rcases c2 with c2 | c2 <;> simp [c2])]
      rw [if_pos ⟨c1, c2⟩] at k
      refine ⟨n, ls, 2, 3, rfl, n0, by omega, hl, by omega, ?_⟩
      cases hg : deepGo 2 3 (n + 1) ls [] with
      | error m => rw [hg] at k; exact k
      | ok rows =>
        rw [hg] at k
        dsimp only
        refine ⟨okE_strs rk, okE_op1, ?_⟩
        obtain ⟨q1, q2⟩ := deep_ok ls _ _ _ hg (by simp)
        refine lc_map rw3 (fun j y hy Q hQ => ?_) ?_ (by rw [List.length_map]; have := hl.1; simp at q2; omega)
        · obtain ⟨r, hr2, rfl⟩ := map_at hy
          have q3 := (q1 r (List.mem_of_getElem? hr2)).2
          obtain ⟨x, y, q, rfl⟩ := two_of (q1 r (List.mem_of_getElem? hr2)).1
          rw [show encR (x :: y :: q) = .list (.str x :: .str y :: q.map .str) from rfl]
          walk_at "d"
          refine ⟨.str x, at_nat (i := 0) rfl, .str y, at_nat (i := 1) rfl, ?_⟩
          have e : decide ((((q.map PyData.str).length + 1 + 1 : Nat) : Int) = 2) = decide (q.map PyData.str = []) := by cases q <;> simp <;> omega
          rw [e]
          exact hQ _ rfl
        · dsimp only
          have e : (rows.map encR).map rw3 = (rows.map fun r => (word0 r, word1 r, decide (r.length = 2))).map fun r => .tuple [.str r.1, .str r.2.1, .bool r.2.2] := by
            rw [List.map_map, List.map_map]
            apply List.map_congr_left
            intro r hr2
            obtain ⟨x, y, q, rfl⟩ := two_of (q1 r hr2).1
            show rw3 (.list (.str x :: .str y :: q.map .str)) = _
            unfold rw3
            cases q <;> simp [word0, word1]
          rw [e]
          rw [eqv_strs]
          exact k
    · rw [if_neg (by have c3 := not_or.mp c2; rw [decide_eq_false (fun q => c3.1 q.symm), decide_eq_false (fun q => c3.2 q.symm)]; decide)]
      rw [if_neg (fun q => c2 q.2)] at k
      exact tagd k
  · rw [if_neg (by rw [decide_eq_true_eq]; exact c1)]
    rw [if_neg (fun q => c1 q.1)] at k
    exact tagd k
end
end Bk
end
section
--@@ genb
set_option Elab.async false
set_option linter.all false
set_option maxRecDepth 100000
set_option maxHeartbeats 4000000
set_option pp.maxSteps 3000
set_option synthInstance.maxHeartbeats 4000000
set_option synthInstance.maxSize 100000
namespace Bk
open PySem PySem.Spec PyProof.Rows L2 Tg Dw En
local macro_rules | `(tactic| walk_at "d") => `(tactic| simp (maxSteps := 4000000) only [DVar, DCon, DLock, DLockV, DCons, DNil, DOp, DOpN, DUn, DTup, DLst, DCB, DCBN, DMt, DMtN, isB, DB, DNot, DAnd, DOr, DAndV, DOrV, DNotV, DIf, DChain, DNext, DSeq, DIfS, DRet, DDrop, DSet, DSetN, GName, GNil, GCons, GTup, DAsgG, DPar, isL, isT, isS, isI, IList, ITup, IStr, IRng1, IRng2, DFor, DLc, DYes, RInt, RIntC, RStr, RCatS, eqC, REq, RNe, isNone, RIsN, RNotN, RInS, RIx, RSlS, ONone, OSome, DSl, DSlN, on1, on2, RLen, RIntOf, RIntS, RStrI, RAbs, RMin2, RMax2, RAll, RAny, NList, RTuple, RReprD, MStarts, MFind, MJoin, tyB, DIs, DIs3, DApp, DCall, DCallX, DRaise, startD, RAdd, RLe, RInX, NCat, RMulX, NSlL, DFzS, DAug, DCallP, startP, wipeD, IItems, DDGet, DDIn, NSortedD, NListD, MDict, DCBM, DParND, DParNN, DPar3N, DPar3, GPut, DPeek, DNe0, DPop, DLenO, DPar3M, DRepl, DDisp1, DNone1, DLam, kD, DMatch, DArms, NSplit, NSortedS, DStar, DDc, flD, inF, eqF, DPeek1, restS, pickS, DLenSet, DSortSet, RDeq, RDne, RDin, DLc2, IEnAt, IKeys, IEnum, IZip, MStarts1, DStarC, DStarS, isStr, ISeq, RCatT, RSlT, RSum, MJoin2, NRep, DParDN, DExt, DListItems, GLst, DPar3DNN, DPutNew, List.length_cons, List.length_nil, List.map_cons, List.map_nil, List.replicate_succ, List.replicate_zero, List.cons_append, List.nil_append, List.getElem?_cons_zero, List.getElem?_cons_succ, List.set_cons_zero, List.set_cons_succ, Nat.reduceAdd, Nat.reduceSub, Nat.zero_add, Bool.not_true, Bool.not_false, Bool.false_eq_true, if_true, if_false, reduceIte, reduceCtorEq, beq_self_eq_true, Bool.true_or, Bool.or_true, Bool.false_or, Bool.or_false, String.reduceBEq, Option.some.injEq, false_and, and_false, exists_const, true_and, and_true, PyData.str.injEq, exists_eq', exists_eq_left', Nat.reduceLeDiff, DV.l.injEq, DV.m.injEq, DV.pot.injEq, List.all_cons, List.all_nil, List.any_cons, List.any_nil, Bool.and_self, Bool.and_true, Bool.true_and, List.zipWith_cons_cons, List.zipWith_nil_right])
theorem noCL_ints (l m : Bool) : ∀ xs : List Int, noCL l m (xs.map .int) = true
  | [] => rfl
  | x :: xs => by simp only [List.map_cons, noCL, noC, noCL_ints l m xs, Bool.and_self]
theorem lay_ints : ∀ xs : List Int, PyData.canLayAll0 (xs.map .int) = true
  | [] => rfl
  | x :: xs => by simp only [List.map_cons, PyData.canLayAll0, PyData.canLay0, lay_ints xs, Bool.and_self]
theorem depth_ints : ∀ xs : List Int, PyData.depthAll (xs.map .int) = 0
  | [] => rfl
  | x :: xs => by simp [PyData.depthAll, PyData.depth, depth_ints xs]
theorem okE_ints (xs : List Int) : okE (.list (xs.map .int)) = true := by
  unfold okE SeqAt.shaped
  simp only [noC, Bool.not_false, Bool.true_and, noCL_ints, PyData.canLay0, lay_ints, PyData.depth, depth_ints]
  decide
theorem eqvAll_ints : ∀ xs ys : List Int, PyData.eqvAll (xs.map .int) (ys.map .int) = decide (xs = ys)
  | [], [] => by simp [PyData.eqvAll]
  | [], y :: ys => by simp [PyData.eqvAll]
  | x :: xs, [] => by simp [PyData.eqvAll]
  | x :: xs, y :: ys => by
    simp only [List.map_cons, PyData.eqvAll, PyData.eqv, eqvAll_ints xs ys]
    rw [Bool.eq_iff_iff]
    simp
theorem eqv_ints (xs ys : List Int) : PyData.eqv (.list (xs.map .int)) (.list (ys.map .int)) = decide (xs = ys) := by
  simp only [PyData.eqv, eqvAll_ints]
/-! ### where kinds begin -/
def natD (hs : List Nat) : List PyData := (hs.map fun i => ((i : Nat) : Int)).map .int
def at0 : PyData → PyData
  | .tuple [x, _] => x
  | _ => .none
def noDp : PyData → Bool
  | .tuple [_, .str z] => !Txt.startswith z (Str.ofString "  ")
  | _ => false
theorem heads_are (ls : List Str) : (((enums 0 (ls.map .str)).filter noDp).map at0) = natD (headsAt ls) := by
  unfold enums headsAt natD
  rw [List.filter_map, List.map_map, List.length_map, List.map_map]
  have e : (List.range ls.length).filter (noDp ∘ fun i => PyData.tuple [.int (0 + ((i : Nat) : Int)), (ls.map PyData.str).getD i .none]) = (List.range ls.length).filter fun i => !Txt.startswith (ls.getD i (Str.ofString "")) (Str.ofString "  ") := by
    apply List.filter_congr
    intro i hi
    rw [List.mem_range] at hi
    simp [noDp, hi]
  rw [e]
  apply List.map_congr_left
  intro i _
  simp [at0]
theorem heads_lt {ls : List Str} {i : Nat} (h : i ∈ headsAt ls) : i < ls.length := by
  unfold headsAt at h
  exact List.mem_range.mp (List.mem_filter.mp h).1
def ends (ls : List Str) : List Nat := (headsAt ls).tail ++ [ls.length]
def pairs (ls : List Str) : List (Nat × Nat) := (headsAt ls).zip (ends ls)
theorem zips_are (hs es : List Nat) : zipsD (natD hs) (natD es) = (hs.zip es).map fun p => .tuple [.int ((p.1 : Nat) : Int), .int ((p.2 : Nat) : Int)] := by
  unfold zipsD natD
  rw [List.map_map, List.map_map, List.zip_map, List.map_map]
  rfl
theorem pairs_lt {ls : List Str} {i a e : Nat} (h : (pairs ls)[i]? = some (a, e)) : a < ls.length ∧ e ≤ ls.length := by
  have hm := List.mem_of_getElem? h
  unfold pairs at hm
  refine ⟨heads_lt (List.of_mem_zip hm).1, ?_⟩
  have := (List.of_mem_zip hm).2
  unfold ends at this
  rcases List.mem_append.mp this with q | q
  · exact Nat.le_of_lt (heads_lt (List.mem_of_mem_tail q))
  · rw [List.mem_singleton.mp q]; exact Nat.le_refl _
theorem told_step {ls : List Str} {ps : List (Nat × Nat)} {i a e : Nat} {rows : Rows} (h : ps[i]? = some (a, e)) : toldGo ls (ps.drop i) rows = match wordsIn (ls.getD a (Str.ofString "")) with
    | none => .error (a + 1)
    | some ws => if ws.length < 2 ∨ isNmS (word1 ws) = false ∨ word1 ws ∈ rows.map (·.1) then .error (a + 1) else match formIn (a + 1) ws ((ls.drop (a + 1)).take (e - (a + 1))) with
      | .error n => .error n
      | .ok f => toldGo ls (ps.drop (i + 1)) (rows ++ [(word1 ws, f, ((a : Nat) : Int) + 1)]) := by
  have hi := (List.getElem?_eq_some_iff.mp h)
  rw [List.drop_eq_getElem_cons hi.1, hi.2]
  rfl
theorem cut_ints (hs : List Nat) : Dw.cutD (natD hs) none (some 1) = natD (hs.take 1) := by
  unfold Dw.cutD natD
  rw [show (1 : Int) = ((1 : Nat) : Int) from rfl, HT.sIx_nat, HT.sIx_none, List.drop_zero, Nat.sub_zero, List.length_map, ← List.map_take, ← List.map_take]
  congr 2
  rw [List.length_map, List.take_eq_take_min (i := 1)]
theorem cut_tail (hs : List Nat) : Dw.cutD (natD hs) (some 1) none = natD hs.tail := by
  unfold Dw.cutD natD
  rw [show (1 : Int) = ((1 : Nat) : Int) from rfl, HT.sIx_nat, HT.sIx_none, List.length_map, List.length_map, ← List.map_drop, ← List.map_take, ← List.map_drop, ← List.map_take]
  congr 2
  cases hs with
  | nil => rfl
  | cons x r => simp
theorem cut_mid (ls : List Str) {a e : Nat} (ha : a ≤ ls.length) (he : e ≤ ls.length) : Dw.cutD (ls.map .str) (some (a : Int)) (some (e : Int)) = ((ls.drop a).take (e - a)).map .str := by
  unfold Dw.cutD
  rw [HT.sIx_nat, HT.sIx_nat, List.length_map, Nat.min_eq_left ha, Nat.min_eq_left he, ← List.map_drop, ← List.map_take]
section
variable {P : Program} {w : World} {K : PySem.W.Frag} {mg : Str → Option Value} {base : Heap}
def encRow (r : Str × Form × Int) : PyData := .tuple [.str r.1, encF r.2.1, .int r.2.2]
def hd1 : PyData → PyData
  | .tuple (x :: _) => x
  | _ => .none
theorem names_enc (rows : Rows) : (rows.map encRow).map hd1 = (rows.map (·.1)).map .str := by
  rw [List.map_map, List.map_map]
  rfl
def FTold (C : Addr) : DFX := fun ds Kk Ex => ∃ (ls : List Str), ds = [.list (ls.map .str)] ∧ Lines ls ∧ (match kindsTold ls with
  | .ok f => Kk (.list (f.map encRow))
  | .error m => Ex C (.int m))
theorem ok_told (T : Tx P K mg) : FnOk P w K mg base (L2.CX P w) 7 T.a_kinds_told T.fd_kinds_told ["lines"] (spX (FTold T.C_BadBook)) := by
  have G_is_name := ok_name (w := w) (base := base) T
  have G_words_in := ok_words (w := w) (base := base) T
  have G_form_in := ok_form (w := w) (base := base) T
  refine Dw.okX T.F_kinds_told sc_kinds_told (fun ds Kk Ex h => ?_) (fun cdv A outer s H E ds Kk Ex ex hr h => ⟨_, _, (pss_cons (ps_fzS (i := 1) (ps_setLc (i := 1) (own := [("at", 3), ("line", 6)]) (g := gTup K 2 (gCons (gName 3) (gCons (gName 6) (gNil)))) (by rfl) sc_kinds_told.nd rfl rfl (sw_true rfl rfl rfl (by decide +kernel)) (pi_enum (by rfl) T.n_enumerate (pa_cons (pv 0) pa_nil)) (blkOk_by (own := [("at", 3), ("line", 6)]) (N := ["lines", "heads", "found", "at", "end", "words", "line", "row"]) (sc := defScope s_kinds_told) (by decide +kernel)) (fun _ _ _ _ _ => (pg_tup (n := 2) rfl (pgs_cons (pg_name (i := 3) sc_kinds_told.nd rfl (Or.inl rfl)) (pgs_cons (pg_name (i := 6) sc_kinds_told.nd rfl (Or.inl rfl)) pgs_nil)))) (fun _ _ _ _ _ => (pts_one (pt_not (pt_val (pe_bmK (K := K) rfl (pe_bm PySem.F.plainAttrs_str PySem.F.slot_str_startswith PySem.F.type_str_startswith mStarts1 (pv 6) (pa_cons (pe_glob (v := .str "  ") (by rfl) T.m_DEEPER ⟨_, rfl⟩) pa_nil))))))) (fun _ _ _ _ _ => (pv 3))))
      (pss_cons (ps_if (pt_cmpR (dNeD (h64 hr)) (pe_fz (pe_slice dSlL (pv 1) po_none (po_some pe_int))) (pe_fz (pe_lst (pa_cons pe_int pa_nil))) (nomark _)) (pss_one (ps_raiseD rfl (takes_of rfl rfl rfl rfl) T.e_BadBook T.ini (hr.mono (by first | decide | omega)) (by rfl) T.m_BadBook T.b_ini pe_int)) pss_nil)
      (pss_cons (ps_set (i := 2) sc_kinds_told.nd rfl (Or.inl rfl) (pe_lst pa_nil))
      (pss_cons (ps_for (passes_of rfl) rfl (pi_zip (by rfl) T.n_zip (pa_cons (pv 1) (pa_cons (pe_fz (pe_lst (StX.pa_star (pe_fz (pe_slice dSlL (pv 1) (po_some pe_int) po_none)) (pa_cons (pe_callB dLen (by rfl) T.n_len PyProof.Rows.Boot.«len» (pa_cons (pv 0) pa_nil)) pa_nil)))) pa_nil))) (pg_tup (n := 2) rfl (pgs_cons (pg_name (i := 3) sc_kinds_told.nd rfl (Or.inl rfl)) (pgs_cons (pg_name (i := 4) sc_kinds_told.nd rfl (Or.inl rfl)) pgs_nil))) (pss_cons (ps_set (i := 5) sc_kinds_told.nd rfl (Or.inl rfl) (pe_call G_words_in (hr.mono (by first | decide | omega)) (by rfl) T.m_words_in T.F_words_in.kp T.b_words_in .nil (passes_call (takes_of rfl rfl rfl rfl) fun _ _ _ _ h => h) (pa_cons (pe_op dAddX (pv 3) pe_int) (pa_cons (pe_ix dIx (pv 0) (pv 3) (fun _ _ => rfl)) pa_nil))))
      (pss_cons (ps_if (PW.pt (pw_or (pt_cmpR dLt (pe_callB dLen (by rfl) T.n_len PyProof.Rows.Boot.«len» (pa_cons (pv 5) pa_nil)) (pe_glob (v := .int 2) (by rfl) T.m_PAIR ⟨_, rfl⟩) (nomark _)) (pw_or (pt_not (pt_val (pe_call G_is_name (hr.mono (by first | decide | omega)) (by rfl) T.m_is_name T.F_is_name.kp T.b_is_name .nil pass0 (pa_cons (pe_ix dIx (pv 5) pe_int (fun _ _ => rfl)) pa_nil)))) (pw_or1 (pt_lk 2 (pt_cmpR dInX (pe_ix dIx (pv 5) pe_int (fun _ _ => rfl)) (pe_fz (pe_lc (own := [("row", 7)]) (g := gName 7) (tt := tYes) (by rfl) sc_kinds_told.nd (pi_list (pv 2)) (blkOk_by (own := [("row", 7)]) (N := ["lines", "heads", "found", "at", "end", "words", "line", "row"]) (sc := defScope s_kinds_told) (by decide +kernel)) (fun _ _ _ _ _ => (pg_name (i := 7) sc_kinds_told.nd rfl (Or.inl rfl))) (fun _ _ _ _ _ => pts_nil) (fun _ _ _ _ _ => (pe_ix dIx (pv 7) pe_int (fun _ _ => rfl))))) (by rfl))))))) (pss_one (ps_raiseD rfl (takes_of rfl rfl rfl rfl) T.e_BadBook T.ini (hr.mono (by first | decide | omega)) (by rfl) T.m_BadBook T.b_ini (pe_op dAddX (pv 3) pe_int))) pss_nil)
      (pss_one (ps_expr (pe_bm PySem.F.plainAttrs_list PySem.F.slot_list_append PySem.F.type_list_append mt_append (pv 2) (pa_cons (pe_tup (pa_cons (pe_ix dIx (pv 5) pe_int (fun _ _ => rfl)) (pa_cons (pe_call G_form_in (hr.mono (by first | decide | omega)) (by rfl) T.m_form_in T.F_form_in.kp T.b_form_in .nil (passes_call (takes_of rfl rfl rfl rfl) fun _ _ _ _ h => h) (pa_cons (pe_op dAddX (pv 3) pe_int) (pa_cons (pv 5) (pa_cons (pe_fz (pe_slice dSlL (pv 0) (po_some (pe_op dAddX (pv 3) pe_int)) (po_some (pv 4)))) pa_nil)))) (pa_cons (pe_op dAddX (pv 3) pe_int) pa_nil)))) pa_nil)))))))
      (pss_one (ps_ret (pe_fz (pv 2)))))))), inferInstance, ?_⟩)
  · obtain ⟨ls, rfl, _⟩ := h
    rfl
  obtain ⟨ls, rfl, hl, k⟩ := h
  generalize hB : DSeq (DIfS _ _ _) (DApp 2 _) = UB
  generalize hL : DSeq (DFor _ _ _) _ = UL
  walk_at "d"
  refine lc_filter at0 noDp (fun j y hy Q Qn hQ hN => ?_) ?_ (by rw [enums_len, List.length_map]; have := hl.1; omega)
  · obtain ⟨z, hz, rfl⟩ := enums_at hy
    obtain ⟨z, hz, rfl⟩ := map_strs hz
    walk_at "d"
    cases hp : Txt.startswith z (Str.ofString "  ") with
    | false =>
      rw [if_pos (by decide)]
      exact hQ (by simp only [noDp, hp]; rfl) _ rfl
    | true =>
      rw [if_neg (by decide)]
      exact hN (by simp only [noDp, hp]; rfl) _ rfl
  rw [heads_are]
  walk_at "d"
  rw [cut_ints]
  refine ⟨okE_ints _, okE_ints [0], ?_⟩
  unfold natD
  rw [show PyData.list [PyData.int 0] = .list (([0] : List Int).map .int) from rfl, eqv_ints]
  unfold kindsTold at k
  have e1 : ((headsAt ls).take 1).map (fun i => ((i : Nat) : Int)) = [0] ↔ (headsAt ls).head? = some 0 := by
    cases headsAt ls with
    | nil => simp
    | cons x r => simp
  by_cases h0 : (headsAt ls).head? = some 0
  · rw [if_neg (by rw [decide_eq_true (e1.mpr h0)]; decide)]
    rw [if_neg (fun q => q h0)] at k
    rw [← hL]
    clear hL
    rw [show ((headsAt ls).map fun i => ((i : Nat) : Int)).map PyData.int = natD (headsAt ls) from rfl]
    have k : (match toldGo ls (pairs ls) [] with
      | .ok f => Kk (.list (f.map encRow))
      | .error m => Ex T.C_BadBook (.int m)) := k
    walk_at "d"
    rw [cut_tail, List.length_map]
    rw [show natD (headsAt ls).tail ++ [PyData.int ((ls.length : Nat) : Int)] = natD (ends ls) by unfold natD ends; simp, zips_are]
    have hlen : (headsAt ls).length ≤ ls.length := by
      unfold headsAt
      refine Nat.le_trans (List.length_filter_le _ _) ?_
      rw [List.length_range]
      exact Nat.le_refl _
    have hl1 := hl.1
    refine ⟨by unfold natD ends; simp; omega, fun i ρ => ∃ (rows : Rows) (x3 x4 x5 : Option DV), ρ = [some (.d (.list (ls.map .str))), some (.d (.list (natD (headsAt ls)))), some (.l (rows.map encRow)), x3, x4, x5, none, none] ∧ toldGo ls (pairs ls) [] = toldGo ls ((pairs ls).drop i) rows ∧ rows.length ≤ i, ⟨[], _, _, _, rfl, rfl, by simp⟩, ?_, ?_⟩
    · rintro i x ρ hx ⟨rows, x3, x4, x5, rfl, hg, hi⟩
      obtain ⟨⟨a, e⟩, hp, rfl⟩ := map_at hx
      have hp : (pairs ls)[i]? = some (a, e) := hp
      dsimp only
      obtain ⟨la, le⟩ := pairs_lt hp
      have hip : i < (pairs ls).length := (List.getElem?_eq_some_iff.mp hp).1
      have hip2 : (pairs ls).length ≤ ls.length := by
        unfold pairs
        rw [List.length_zip]
        omega
      rw [hg, told_step hp] at k
      obtain ⟨z, hz⟩ : ∃ z, ls[a]? = some z := ⟨_, List.getElem?_eq_getElem la⟩
      have lz := hl.2 z (List.mem_of_getElem? hz)
      rw [show ls.getD a (Str.ofString "") = z by rw [List.getD_eq_getElem?_getD, hz]; rfl] at k
      walk_at "d"
      refine ⟨.str z, at_nat (by rw [List.getElem?_map, hz]; rfl), _, _, rfl, lz.1, ?_⟩
      cases hw : wordsIn z with
      | none =>
        rw [hw] at k
        exact k
      | some ws =>
        rw [hw] at k
        have hws : ws = Txt.split z (Str.ofString " ") := by
          unfold wordsIn at hw
          split at hw
          · cases hw
          · exact (Option.some.inj hw).symm
        have w1 : ws.length ≤ 1000 := by rw [hws]; have := split_le z (Str.ofString " "); omega
        have w2 : ∀ x ∈ ws, x.length ≤ 998 ∧ PyData.strOk x = true := fun x hx => by
          rw [hws] at hx
          have := part_short hx
          exact ⟨by omega, part_strOk lz.2 hx⟩
        dsimp only at k
        rw [← hB]
        walk_at "d"
        rw [List.length_map]
        by_cases c1 : ws.length < 2
        · rw [if_pos (by rw [decide_eq_true_eq]; omega)]
          rw [if_pos (.inl c1)] at k
          exact k
        · rw [if_neg (by rw [decide_eq_true_eq]; omega)]
          obtain ⟨h0', h1', rest, rfl⟩ := two_of (by omega : 2 ≤ ws.length)
          have wl := w2 h1' (by simp)
          refine ⟨.str h1', at_nat (i := 1) rfl, .str h1', rfl, fun z e => by cases e; omega, ?_⟩
          rw [show word1 (h0' :: h1' :: rest) = h1' from rfl] at k
          cases c2 : isNmS h1' with
          | false =>
            rw [show isNm (.str h1') = false from c2]
            rw [if_pos (.inr (.inl c2))] at k
            exact k
          | true =>
            rw [show isNm (.str h1') = true from c2]
            dsimp only
            rw [if_neg (by decide)]
            refine ⟨.str h1', at_nat (i := 1) rfl, ?_⟩
            refine lc_map hd1 (fun j y hy Q hQ => ?_) ?_ (by rw [List.length_map]; omega)
            · obtain ⟨r, hr2, rfl⟩ := map_at hy
              unfold encRow
              walk_at "d"
              exact ⟨.str r.1, at_nat (i := 0) rfl, hQ _ rfl⟩
            · rw [names_enc]
              walk_at "d"
              refine ⟨fl_strs _, rfl, ?_⟩
              have e3 := in_strs h1' (rows.map (·.1))
              simp only [inF, eqF] at e3
              rw [e3]
              clear e3
              by_cases c3 : h1' ∈ rows.map (·.1)
              · rw [if_pos (.inr (.inr c3))] at k
                rw [if_pos (decide_eq_true c3)]
                exact k
              · have nc : ¬ ((h0' :: h1' :: rest).length < 2 ∨ isNmS h1' = false ∨ h1' ∈ rows.map (·.1)) := fun q => by
                  rcases q with q | q | q
                  · exact c1 q
                  · exact absurd q (by rw [c2]; decide)
                  · exact c3 q
                rw [if_neg nc] at k
                rw [if_neg (by rw [decide_eq_true_eq]; exact c3)]
                have ec := cut_mid ls (a := a + 1) (e := e) (by omega) le
                rw [show (((a + 1 : Nat)) : Int) = ((a : Nat) : Int) + 1 by omega] at ec
                refine ⟨.str h1', at_nat (i := 1) rfl, (a : Int) + 1, h0' :: h1' :: rest, (ls.drop (a + 1)).take (e - (a + 1)), by rw [ec]; rfl, by omega, by omega, by simp, w1, w2, ⟨?_, fun x hx => hl.2 x (List.mem_of_mem_drop (List.mem_of_mem_take hx))⟩, ?_⟩
                · rw [List.length_take, List.length_drop]
                  omega
                · cases hf : formIn ((a : Int) + 1) (h0' :: h1' :: rest) ((ls.drop (a + 1)).take (e - (a + 1))) with
                  | error m => rw [hf] at k; exact k
                  | ok f =>
                    refine ⟨by rw [List.length_map]; omega, rows ++ [(h1', f, (a : Int) + 1)], _, _, _, by rw [List.map_append]; rfl, hg.trans ((told_step hp).trans ?_), by rw [List.length_append, List.length_singleton]; omega⟩
                    rw [show ls.getD a (Str.ofString "") = z by rw [List.getD_eq_getElem?_getD, hz]; rfl, hw]
                    dsimp only
                    rw [show word1 (h0' :: h1' :: rest) = h1' from rfl, if_neg nc, hf]
    · rintro ρ ⟨rows, x3, x4, x5, rfl, hg, hi⟩
      rw [List.length_map, show (headsAt ls).zip (ends ls) = pairs ls from rfl, List.drop_length] at hg
      rw [hg] at k
      exact k
  · rw [if_pos (by rw [decide_eq_false (fun q => h0 (e1.mp q))]; decide)]
    rw [if_pos h0] at k
    exact k
end
end Bk
end
section
--@@ genb
set_option Elab.async false
set_option linter.all false
set_option maxRecDepth 100000
set_option maxHeartbeats 4000000
set_option pp.maxSteps 3000
set_option synthInstance.maxHeartbeats 4000000
set_option synthInstance.maxSize 100000
namespace Dw
open PySem PySem.Spec PyProof.Rows L2 Tg
theorem putP_new {kvs : List (Str × PyData)} {x : Str} {d : PyData} (h : x ∉ kvs.map (·.1)) : putP kvs x d = kvs ++ [(x, d)] := by
  unfold putP
  rw [if_neg]
  intro q
  obtain ⟨p, hp, e⟩ := List.any_eq_true.mp q
  exact h (List.mem_map.mpr ⟨p, hp, of_decide_eq_true e⟩)
theorem dc_map {G : TDG} {TK TV : TD} {vs ts : List Nat} {items : List PyData} {ρ1 : DSt} {K : DV → DSt → Prop} (fk : PyData → Str) (fv : PyData → PyData)
    (hs : ∀ (i : Nat) x, items[i]? = some x → ∀ Q : Str → PyData → DSt → Prop, (∀ ρ5, wipeD ρ5 vs = wipeD ρ1 vs → Q (fk x) (fv x) ρ5) → G x (wipeD ρ1 vs) fun ρ2 => TK ρ2 fun kd ρ4 => isS kd fun y => TV ρ4 fun d ρ5 => Q y d ρ5) (nd : (items.map fk).Nodup) (hK : K (.m (strP (items.map fun x => (fk x, fv x)))) (wipeD ρ1 vs)) (hl : items.length ≤ 100000) (hts : ts.all (vs.contains ·) = true := by rfl) : DcB items G ts DYes TK TV vs ρ1 K := by
  refine ⟨hl, hts, fun i acc ρ => acc = (items.take i).map (fun x => (fk x, fv x)) ∧ ρ = wipeD ρ1 vs, ⟨rfl, rfl⟩, ?_, ?_⟩
  · rintro i x acc ρ hx ⟨rfl, rfl⟩
    refine hs i x hx (fun y d ρ5 => putP ((items.take i).map fun x => (fk x, fv x)) y d = (items.take (i + 1)).map (fun x => (fk x, fv x)) ∧ wipeD ρ5 vs = wipeD ρ1 vs) fun ρ5 e => ⟨?_, e⟩
    rw [putP_new, take_succ hx, List.map_append]
    · rfl
    · rw [List.map_map]
      intro q
      have e2 : (items.map fk) = (items.take i).map fk ++ fk x :: (items.drop (i + 1)).map fk := by
        have hi := List.getElem?_eq_some_iff.mp hx
        rw [← List.map_cons, ← List.map_append]
        congr 1
        rw [← hi.2, ← List.drop_eq_getElem_cons hi.1, List.take_append_drop]
      rw [e2, List.nodup_append] at nd
      exact nd.2.2 (fk x) q (fk x) (by simp) rfl
  · rintro acc ρ ⟨rfl, rfl⟩
    rw [List.take_length]
    exact hK
end Dw
namespace Bk
open PySem PySem.Spec PyProof.Rows L2 Tg Dw En
local macro_rules | `(tactic| walk_at "d") => `(tactic| simp (maxSteps := 4000000) only [DVar, DCon, DLock, DLockV, DCons, DNil, DOp, DOpN, DUn, DTup, DLst, DCB, DCBN, DMt, DMtN, isB, DB, DNot, DAnd, DOr, DAndV, DOrV, DNotV, DIf, DChain, DNext, DSeq, DIfS, DRet, DDrop, DSet, DSetN, GName, GNil, GCons, GTup, DAsgG, DPar, isL, isT, isS, isI, IList, ITup, IStr, IRng1, IRng2, DFor, DLc, DYes, RInt, RIntC, RStr, RCatS, eqC, REq, RNe, isNone, RIsN, RNotN, RInS, RIx, RSlS, ONone, OSome, DSl, DSlN, on1, on2, RLen, RIntOf, RIntS, RStrI, RAbs, RMin2, RMax2, RAll, RAny, NList, RTuple, RReprD, MStarts, MFind, MJoin, tyB, DIs, DIs3, DApp, DCall, DCallX, DRaise, startD, RAdd, RLe, RInX, NCat, RMulX, NSlL, DFzS, DAug, DCallP, startP, wipeD, IItems, DDGet, DDIn, NSortedD, NListD, MDict, DCBM, DParND, DParNN, DPar3N, DPar3, GPut, DPeek, DNe0, DPop, DLenO, DPar3M, DRepl, DDisp1, DNone1, DLam, kD, DMatch, DArms, NSplit, NSortedS, DStar, DDc, flD, inF, eqF, DPeek1, restS, pickS, DLenSet, DSortSet, RDeq, RDne, RDin, DLc2, IEnAt, IKeys, IEnum, IZip, MStarts1, DStarC, DStarS, isStr, ISeq, RCatT, RSlT, RSum, MJoin2, NRep, DParDN, DExt, DListItems, GLst, DPar3DNN, DPutNew, List.length_cons, List.length_nil, List.map_cons, List.map_nil, List.replicate_succ, List.replicate_zero, List.cons_append, List.nil_append, List.getElem?_cons_zero, List.getElem?_cons_succ, List.set_cons_zero, List.set_cons_succ, Nat.reduceAdd, Nat.reduceSub, Nat.zero_add, Bool.not_true, Bool.not_false, Bool.false_eq_true, if_true, if_false, reduceIte, reduceCtorEq, beq_self_eq_true, Bool.true_or, Bool.or_true, Bool.false_or, Bool.or_false, String.reduceBEq, Option.some.injEq, false_and, and_false, exists_const, true_and, and_true, PyData.str.injEq, exists_eq', exists_eq_left', Nat.reduceLeDiff, DV.l.injEq, DV.m.injEq, DV.pot.injEq, List.all_cons, List.all_nil, List.any_cons, List.any_nil, Bool.and_self, Bool.and_true, Bool.true_and, List.zipWith_cons_cons, List.zipWith_nil_right])
abbrev Forms := List (Str × Form)
def lookF (x : Str) : Forms → Option Form
  | [] => none
  | (y, f) :: r => if y = x then some f else lookF x r
def encP (fs : Forms) : List (Str × PyData) := fs.map fun r => (r.1, encF r.2)
def encD (fs : Forms) : PyData := .dict (strP (encP fs))
theorem look_enc (x : Str) : ∀ fs : Forms, lookP x (encP fs) = (lookF x fs).map encF
  | [] => rfl
  | (y, f) :: r => by
    show lookP x ((y, encF f) :: encP r) = _
    unfold lookP lookF
    split
    · rfl
    · exact look_enc x r
def fieldP (r : Str × Str × Bool) : Str × PyData := (r.1, .tuple [.str r.2.1, .bool r.2.2])
def encRec (r : Str × Str × Bool) : PyData := .tuple [.str r.1, .str r.2.1, .bool r.2.2]
def recK : PyData → Str
  | .tuple (.str x :: _) => x
  | _ => Str.ofString ""
def recV : PyData → PyData
  | .tuple [_, y, z] => .tuple [y, z]
  | _ => .none
def tagF : Form → Str
  | .bare w => w
  | .int _ _ => Str.ofString "int"
  | .word _ => Str.ofString "word"
  | .list _ _ _ => Str.ofString "list"
  | .record _ _ => Str.ofString "record"
  | .either _ => Str.ofString "either"
  | .tagged _ _ => Str.ofString "tagged"
def restF : Form → List PyData
  | .bare _ => []
  | .int lo hi => [.int lo, .int hi]
  | .word ws => [.tuple (ws.map .str)]
  | .list k lo hi => [.str k, .int lo, optI hi]
  | .record op rows => [.bool op, .tuple (rows.map encRec)]
  | .either ms => [.tuple (ms.map .str)]
  | .tagged f rows => [.str f, .tuple (rows.map fun r => .tuple [.str r.1, .str r.2])]
theorem encF_tag (f : Form) : encF f = .tuple (.str (tagF f) :: restF f) := by cases f <;> rfl
theorem lookF_mem {x : Str} {f : Form} : ∀ {fs : Forms}, lookF x fs = some f → (x, f) ∈ fs
  | [], h => by cases h
  | (y, g) :: r, h => by
    unfold lookF at h
    split at h
    · cases h
      rename_i e
      rw [e]
      exact List.mem_cons_self
    · exact List.mem_cons_of_mem _ (lookF_mem h)
theorem lookF_some {x : Str} : ∀ {fs : Forms}, (lookF x fs).isSome = decide (x ∈ fs.map (·.1))
  | [] => rfl
  | (y, g) :: r => by
    unfold lookF
    split
    · rename_i e; simp [e]
    · rename_i e
      rw [lookF_some (fs := r)]
      simp [Ne.symm e]
theorem look_fields (x : Str) : ∀ rows : List (Str × Str × Bool), (lookP x (rows.map fieldP)).isSome = (rows.map (·.1)).contains x
  | [] => rfl
  | r :: rs => by
    show (lookP x ((r.1, _) :: rs.map fieldP)).isSome = _
    unfold lookP
    split
    · rename_i e; simp [e]
    · rename_i e
      rw [look_fields x rs]
      simp [Ne.symm e]
section
variable {P : Program} {w : World} {K : PySem.W.Frag} {mg : Str → Option Value} {base : Heap}
def FRowsBy : DF := fun ds Kk => ∃ (op : Bool) (rows : List (Str × Str × Bool)), ds = [encF (.record op rows)] ∧ (rows.map (·.1)).Nodup ∧ rows.length ≤ 1000 ∧ Kk (.dict (strP (rows.map fieldP)))
theorem ok_rowsBy (T : Tx P K mg) : FnOk P w K mg base CX0 1 T.a_rows_by_field T.fd_rows_by_field ["form"] (spD FRowsBy) := by
  refine Dw.okD T.F_rows_by_field sc_rows_by_field (fun ds Kk h => ?_) (fun cdv A outer s H E ds Kk hr h => ⟨_, _, (pss_one (ps_ret (pe_fz (pe_dc (own := [("field", 1), ("name", 2), ("is_wanted", 3)]) (g := gTup K 3 (gCons (gName 1) (gCons (gName 2) (gCons (gName 3) (gNil))))) (tt := tYes) (by rfl) sc_rows_by_field.nd (pi_tup (pe_ix dIx (pv 0) pe_int (fun _ _ => rfl))) (blkOk_by (own := [("field", 1), ("name", 2), ("is_wanted", 3)]) (N := ["form", "field", "name", "is_wanted"]) (sc := defScope s_rows_by_field) (by decide +kernel)) (fun _ _ _ _ _ => (pg_tup (n := 3) rfl (pgs_cons (pg_name (i := 1) sc_rows_by_field.nd rfl (Or.inl rfl)) (pgs_cons (pg_name (i := 2) sc_rows_by_field.nd rfl (Or.inl rfl)) (pgs_cons (pg_name (i := 3) sc_rows_by_field.nd rfl (Or.inl rfl)) pgs_nil))))) (fun _ _ _ _ _ => pts_nil) (fun _ _ _ _ _ => (pv 1)) (fun _ _ _ _ _ => (pe_tup (pa_cons (pv 2) (pa_cons (pv 3) pa_nil)))))))), inferInstance, ?_⟩)
  · obtain ⟨op, rows, rfl, _⟩ := h
    rfl
  obtain ⟨op, rows, rfl, nd, hl, k⟩ := h
  rw [show encF (.record op rows) = .tuple [.str "record", .bool op, .tuple (rows.map encRec)] from rfl]
  walk_at "d"
  refine ⟨_, at_nat (i := 2) rfl, ?_⟩
  dsimp only
  refine dc_map recK recV (fun j y hy Q hQ => ?_) ?_ ?_ (by rw [List.length_map]; omega)
  · obtain ⟨r, hr2, rfl⟩ := map_at hy
    unfold encRec
    walk_at "d"
    exact hQ _ rfl
  · rw [List.map_map]
    exact nd
  · rw [List.map_map]
    exact k
/-! ### kinds of lines of tagged kinds -/
def okF : Form → Prop
  | .bare w => w = Str.ofString "none" ∨ w = Str.ofString "bool" ∨ w = Str.ofString "text"
  | .record _ rows => (rows.map (·.1)).Nodup ∧ rows.length ≤ 1000
  | .either ms => ms.length ≤ 1000
  | .tagged _ rows => rows.length ≤ 1000
  | _ => True
def lineKind (fs : Forms) (name field : Str) : Bool := match lookF name fs with
  | some (.record _ rows) => !(rows.map (·.1)).contains field
  | _ => false
def FLine : DF := fun ds Kk => ∃ (fs : Forms) (name field : Str), ds = [encD fs, .str name, .str field] ∧ (∀ r ∈ fs, okF r.2) ∧ Kk (.bool (lineKind fs name field))
theorem ok_line (T : Tx P K mg) : FnOk P w K mg base CX0 2 T.a_is_line_kind T.fd_is_line_kind ["forms", "name", "field"] (spD FLine) := by
  have G_rows_by_field := ok_rowsBy (w := w) (base := base) T
  refine Dw.okD T.F_is_line_kind sc_is_line_kind (fun ds Kk h => ?_) (fun cdv A outer s H E ds Kk hr h => ⟨_, _, (pss_one (ps_ret (pe_and (pe_cmp (pc_din (hu_of hr) (pv 1) (pv 0))) (pe_and (pe_cmpR dEq (pe_ix dIx (pe_dget (hu_of hr) (pv 0) (pv 1) (fun _ _ => rfl)) pe_int (fun _ _ => rfl)) (pe_glob (v := .str "record") (by rfl) T.m_RECORD ⟨_, rfl⟩) (nomark _)) (pe_one (pe_cmp (pc_dnotin (hu_of hr) (pv 2) (pe_call G_rows_by_field (hr.mono (by first | decide | omega)) (by rfl) T.m_rows_by_field T.F_rows_by_field.kp T.b_rows_by_field .nil pass0 (pa_cons (pe_dget (hu_of hr) (pv 0) (pv 1) (fun _ _ => rfl)) pa_nil))))))))), inferInstance, ?_⟩)
  · obtain ⟨fs, name, field, rfl, _⟩ := h
    rfl
  obtain ⟨fs, name, field, rfl, ok, k⟩ := h
  walk_at "d"
  refine ⟨encP fs, rfl, ?_⟩
  dsimp only
  rw [look_enc]
  cases hf : lookF name fs with
  | none =>
    rw [if_neg (by decide)]
    rw [show lineKind fs name field = false by unfold lineKind; rw [hf]] at k
    exact k
  | some f =>
    rw [if_pos (show (Option.map encF (some f)).isSome = true from rfl)]
    refine ⟨encP fs, rfl, encF f, by rw [look_enc, hf]; rfl, ?_⟩
    rw [encF_tag]
    refine ⟨.str (tagF f), at_nat (i := 0) rfl, ?_⟩
    dsimp only
    have fo := ok _ (lookF_mem hf)
    by_cases ht : tagF f = Str.ofString "record"
    · rw [if_pos (decide_eq_true ht)]
      obtain ⟨op, rows, rfl⟩ : ∃ op rows, f = .record op rows := by
        cases f with
        | record op rows => exact ⟨op, rows, rfl⟩
        | bare w => rcases fo with e | e | e <;> (simp only [tagF] at ht; rw [e] at ht; exact absurd ht (by decide))
        | _ => simp only [tagF] at ht; exact absurd ht (by decide)
      refine ⟨encP fs, rfl, encF (.record op rows), by rw [look_enc, hf]; rfl, op, rows, rfl, fo.1, fo.2, rows.map fieldP, rfl, ?_⟩
      dsimp only
      rw [look_fields]
      rw [show lineKind fs name field = !(rows.map (·.1)).contains field by unfold lineKind; rw [hf]] at k
      exact k
    · rw [if_neg (by rw [decide_eq_true_eq]; exact ht)]
      rw [show lineKind fs name field = false by
        unfold lineKind
        rw [hf]
        cases f with
        | record op rows => exact absurd rfl ht
        | _ => rfl] at k
      exact k
end
end Bk
end
section
--@@ genb
set_option Elab.async false
set_option linter.all false
set_option maxRecDepth 100000
set_option maxHeartbeats 4000000
set_option pp.maxSteps 3000
set_option synthInstance.maxHeartbeats 4000000
set_option synthInstance.maxSize 100000
namespace Bk
open PySem PySem.Spec PyProof.Rows L2 Tg Dw En
local macro_rules | `(tactic| walk_at "d") => `(tactic| simp (maxSteps := 4000000) only [DVar, DCon, DLock, DLockV, DCons, DNil, DOp, DOpN, DUn, DTup, DLst, DCB, DCBN, DMt, DMtN, isB, DB, DNot, DAnd, DOr, DAndV, DOrV, DNotV, DIf, DChain, DNext, DSeq, DIfS, DRet, DDrop, DSet, DSetN, GName, GNil, GCons, GTup, DAsgG, DPar, isL, isT, isS, isI, IList, ITup, IStr, IRng1, IRng2, DFor, DLc, DYes, RInt, RIntC, RStr, RCatS, eqC, REq, RNe, isNone, RIsN, RNotN, RInS, RIx, RSlS, ONone, OSome, DSl, DSlN, on1, on2, RLen, RIntOf, RIntS, RStrI, RAbs, RMin2, RMax2, RAll, RAny, NList, RTuple, RReprD, MStarts, MFind, MJoin, tyB, DIs, DIs3, DApp, DCall, DCallX, DRaise, startD, RAdd, RLe, RInX, NCat, RMulX, NSlL, DFzS, DAug, DCallP, startP, wipeD, IItems, DDGet, DDIn, NSortedD, NListD, MDict, DCBM, DParND, DParNN, DPar3N, DPar3, GPut, DPeek, DNe0, DPop, DLenO, DPar3M, DRepl, DDisp1, DNone1, DLam, kD, DMatch, DArms, NSplit, NSortedS, DStar, DDc, flD, inF, eqF, DPeek1, restS, pickS, DLenSet, DSortSet, RDeq, RDne, RDin, DLc2, IEnAt, IKeys, IEnum, IZip, MStarts1, DStarC, DStarS, isStr, ISeq, RCatT, RSlT, RSum, MJoin2, NRep, DParDN, DExt, DListItems, GLst, DPar3DNN, DPutNew, List.length_cons, List.length_nil, List.map_cons, List.map_nil, List.replicate_succ, List.replicate_zero, List.cons_append, List.nil_append, List.getElem?_cons_zero, List.getElem?_cons_succ, List.set_cons_zero, List.set_cons_succ, Nat.reduceAdd, Nat.reduceSub, Nat.zero_add, Bool.not_true, Bool.not_false, Bool.false_eq_true, if_true, if_false, reduceIte, reduceCtorEq, beq_self_eq_true, Bool.true_or, Bool.or_true, Bool.false_or, Bool.or_false, String.reduceBEq, Option.some.injEq, false_and, and_false, exists_const, true_and, and_true, PyData.str.injEq, exists_eq', exists_eq_left', Nat.reduceLeDiff, DV.l.injEq, DV.m.injEq, DV.pot.injEq, List.all_cons, List.all_nil, List.any_cons, List.any_nil, Bool.and_self, Bool.and_true, Bool.true_and, List.zipWith_cons_cons, List.zipWith_nil_right])
def firstBad {α : Type} (p : α → Bool) : Int → List α → Option Int
  | _, [] => none
  | n, x :: r => if p x = true then firstBad p (n + 1) r else some n
def hasF (fs : Forms) (x : Str) : Bool := decide (x ∈ fs.map (·.1))
def named1 (fs : Forms) (n : Int) : Form → Option Int
  | .list k _ _ => if hasF fs k = true then none else some n
  | .either ms => if ms.all (hasF fs) = true then none else some n
  | .record _ rows => firstBad (fun r => hasF fs r.2.1) (n + 1) rows
  | .tagged f rows => firstBad (fun r => lineKind fs r.2 f) (n + 1) rows
  | _ => none
theorem look_has (fs : Forms) (x : Str) : (lookP x (encP fs)).isSome = hasF fs x := by
  rw [look_enc]
  unfold hasF
  rw [← lookF_some]
  cases lookF x fs <;> rfl
def hasD (fs : Forms) : PyData → Bool
  | .str x => hasF fs x
  | _ => false
theorem bad_step {α : Type} {p : α → Bool} {n : Int} {l : List α} {i : Nat} {x : α} (h : l[i]? = some x) : firstBad p n (l.drop i) = if p x = true then firstBad p (n + 1) (l.drop (i + 1)) else some n := by
  have hi := (List.getElem?_eq_some_iff.mp h)
  rw [List.drop_eq_getElem_cons hi.1, hi.2]
  rfl
section
variable {P : Program} {w : World} {K : PySem.W.Frag} {mg : Str → Option Value} {base : Heap}
def FNamed (C : Addr) : DFX := fun ds Kk Ex => ∃ (fs : Forms) (f : Form) (n : Int), ds = [encD fs, encF f, .int n] ∧ 0 ≤ n ∧ n ≤ 100000 ∧ (∀ r ∈ fs, okF r.2) ∧ okF f ∧ (match named1 fs n f with
  | none => Kk .none
  | some m => Ex C (.int m))
theorem ok_named (T : Tx P K mg) : FnOk P w K mg base (L2.CX P w) 3 T.a_check_named T.fd_check_named ["forms", "form", "number"] (spX (FNamed T.C_Unnamed)) := by
  have G_is_line_kind := ok_line (w := w) (base := base) T
  refine Dw.okX T.F_check_named sc_check_named (fun ds Kk Ex h => ?_) (fun cdv A outer s H E ds Kk Ex ex hr h => ⟨_, _, (pss_one (ps_match (pe_ix dIx (pv 1) pe_int (fun _ _ => rfl)) (pm_cons pp_val (pss_one (ps_if (pt_cmp (pc_dnotin (hu_of hr) (pe_ix dIx (pv 1) pe_int (fun _ _ => rfl)) (pv 0))) (pss_one (ps_raiseD rfl (takes_of rfl rfl rfl rfl) T.e_Unnamed T.ini (hr.mono (by first | decide | omega)) (by rfl) T.m_Unnamed T.b_ini (pv 2))) pss_nil))
      (pm_cons pp_val (pss_one (ps_if (pt_not (pt_val (pe_callB (dAll rfl) (by rfl) T.n_all PyProof.Rows.Boot.«all» (pa_cons (pe_fz (pe_lc (own := [("member", 8)]) (g := gName 8) (tt := tYes) (by rfl) sc_check_named.nd (pi_tup (pe_ix dIx (pv 1) pe_int (fun _ _ => rfl))) (blkOk_by (own := [("member", 8)]) (N := ["forms", "form", "number", "at", "field", "name", "is_wanted", "word", "member"]) (sc := defScope s_check_named) (by decide +kernel)) (fun _ _ _ _ _ => (pg_name (i := 8) sc_check_named.nd rfl (Or.inl rfl))) (fun _ _ _ _ _ => pts_nil) (fun _ _ _ _ _ => (pe_cmp (pc_din (hu_of hr) (pv 8) (pv 0)))))) pa_nil)))) (pss_one (ps_raiseD rfl (takes_of rfl rfl rfl rfl) T.e_Unnamed T.ini (hr.mono (by first | decide | omega)) (by rfl) T.m_Unnamed T.b_ini (pv 2))) pss_nil))
      (pm_cons pp_val (pss_one (ps_for (passes_of rfl) rfl (pi_enumAt (by rfl) T.n_enumerate (pa_cons (pe_ix dIx (pv 1) pe_int (fun _ _ => rfl)) (pa_cons (pe_op dAddX (pv 2) pe_int) pa_nil))) (pg_tup (n := 2) rfl (pgs_cons (pg_name (i := 3) sc_check_named.nd rfl (Or.inl rfl)) (pgs_cons (pg_tup (n := 3) rfl (pgs_cons (pg_name (i := 4) sc_check_named.nd rfl (Or.inl rfl)) (pgs_cons (pg_name (i := 5) sc_check_named.nd rfl (Or.inl rfl)) (pgs_cons (pg_name (i := 6) sc_check_named.nd rfl (Or.inl rfl)) pgs_nil)))) pgs_nil))) (pss_one (ps_if (pt_cmp (pc_dnotin (hu_of hr) (pv 5) (pv 0))) (pss_one (ps_raiseD rfl (takes_of rfl rfl rfl rfl) T.e_Unnamed T.ini (hr.mono (by first | decide | omega)) (by rfl) T.m_Unnamed T.b_ini (pv 3))) pss_nil))))
      (pm_cons pp_val (pss_one (ps_for (passes_of rfl) rfl (pi_enumAt (by rfl) T.n_enumerate (pa_cons (pe_ix dIx (pv 1) pe_int (fun _ _ => rfl)) (pa_cons (pe_op dAddX (pv 2) pe_int) pa_nil))) (pg_tup (n := 2) rfl (pgs_cons (pg_name (i := 3) sc_check_named.nd rfl (Or.inl rfl)) (pgs_cons (pg_tup (n := 2) rfl (pgs_cons (pg_name (i := 7) sc_check_named.nd rfl (Or.inl rfl)) (pgs_cons (pg_name (i := 5) sc_check_named.nd rfl (Or.inl rfl)) pgs_nil))) pgs_nil))) (pss_one (ps_if (pt_not (pt_val (pe_call G_is_line_kind (hr.mono (by first | decide | omega)) (by rfl) T.m_is_line_kind T.F_is_line_kind.kp T.b_is_line_kind .nil pass0 (pa_cons (pv 0) (pa_cons (pv 5) (pa_cons (pe_ix dIx (pv 1) pe_int (fun _ _ => rfl)) pa_nil)))))) (pss_one (ps_raiseD rfl (takes_of rfl rfl rfl rfl) T.e_Unnamed T.ini (hr.mono (by first | decide | omega)) (by rfl) T.m_Unnamed T.b_ini (pv 3))) pss_nil))))
      pm_nil)))))), inferInstance, ?_⟩)
  · obtain ⟨fs, f, n, rfl, _⟩ := h
    rfl
  obtain ⟨fs, f, n, rfl, n0, n1, ok, fo, k⟩ := h
  have tag0 : atI (.str (tagF f) :: restF f) 0 = some (.str (tagF f)) := at_nat (i := 0) rfl
  rw [encF_tag]
  cases f with
  | list kd lo hi =>
    simp only [tagF, restF] at tag0 ⊢
    walk_at "d"
    refine ⟨_, tag0, ?_⟩
    walk_at "d"
    refine ⟨_, at_nat (i := 1) rfl, encP fs, rfl, ?_⟩
    simp only [isS, isB, if_true]
    rw [look_has]
    simp only [named1] at k
    cases hh : hasF fs kd with
    | true =>
      rw [hh, if_pos rfl] at k
      exact k
    | false =>
      rw [hh, if_neg (by decide)] at k
      exact k
  | either ms =>
    simp only [tagF, restF] at tag0 ⊢
    walk_at "d"
    refine ⟨_, tag0, ?_⟩
    walk_at "d"
    rw [if_neg (by decide), if_pos (by decide)]
    walk_at "d"
    refine ⟨_, at_nat (i := 1) rfl, ?_⟩
    dsimp only
    refine lc_map (fun d => .bool (hasD fs d)) (fun j y hy Q hQ => ?_) ?_ (by rw [List.length_map]; have : ms.length ≤ 1000 := fo; omega)
    · obtain ⟨x, hx, rfl⟩ := map_strs hy
      walk_at "d"
      refine ⟨encP fs, rfl, ?_⟩
      dsimp only
      rw [look_has]
      exact hQ _ rfl
    · walk_at "d"
      refine ⟨ms.map (hasF fs), by rw [List.map_map, List.map_map]; rfl, ?_⟩
      rw [List.all_map, show (ms.all (id ∘ hasF fs)) = ms.all (hasF fs) from rfl]
      simp only [named1] at k
      cases hh : ms.all (hasF fs) with
      | true =>
        rw [hh, if_pos rfl] at k
        exact k
      | false =>
        rw [hh, if_neg (by decide)] at k
        exact k
  | record op rows =>
    simp only [tagF, restF] at tag0 ⊢
    walk_at "d"
    refine ⟨_, tag0, ?_⟩
    walk_at "d"
    rw [if_neg (by decide), if_neg (by decide), if_pos (by decide)]
    walk_at "d"
    refine ⟨_, at_nat (i := 2) rfl, ?_⟩
    dsimp only
    refine ⟨by omega, fun i ρ => ∃ x3 x4 x5 x6 x7, ρ = [some (.d (encD fs)), some (.d (.tuple [.str "record", .bool op, .tuple (rows.map encRec)])), some (.d (.int n)), x3, x4, x5, x6, x7, none] ∧ firstBad (fun r => hasF fs r.2.1) (n + 1) rows = firstBad (fun r => hasF fs r.2.1) (n + 1 + i) (rows.drop i), ⟨_, _, _, _, _, rfl, by simp⟩, ?_, ?_⟩
    · rintro i x ρ hx ⟨x3, x4, x5, x6, x7, rfl, hg⟩
      obtain ⟨y, hy, rfl⟩ := enums_at hx
      obtain ⟨r, hr2, rfl⟩ := map_at hy
      simp only [named1] at k
      have hst := bad_step (p := fun r => hasF fs r.2.1) (n := n + 1 + i) hr2
      rw [hg, hst] at k
      unfold encRec
      walk_at "d"
      refine ⟨encP fs, rfl, ?_⟩
      dsimp only
      rw [look_has]
      cases hh : hasF fs r.2.1 with
      | true =>
        rw [if_neg (by decide)]
        refine ⟨_, _, _, _, _, rfl, hg.trans (hst.trans ?_)⟩
        rw [if_pos hh]
        congr 1
        omega
      | false =>
        rw [if_pos (by decide)]
        rw [hh, if_neg (by decide)] at k
        exact k
    · rintro ρ ⟨x3, x4, x5, x6, x7, rfl, hg⟩
      rw [enums_len, List.length_map, List.drop_length] at hg
      simp only [named1] at k
      rw [hg] at k
      exact k
  | tagged fd rows =>
    simp only [tagF, restF] at tag0 ⊢
    walk_at "d"
    refine ⟨_, tag0, ?_⟩
    walk_at "d"
    rw [if_neg (by decide), if_neg (by decide), if_neg (by decide), if_pos (by decide)]
    walk_at "d"
    refine ⟨_, at_nat (i := 2) rfl, ?_⟩
    dsimp only
    refine ⟨by omega, fun i ρ => ∃ x3 x4 x5 x6 x7, ρ = [some (.d (encD fs)), some (.d (.tuple [.str "tagged", .str fd, .tuple (rows.map fun r => .tuple [.str r.1, .str r.2])])), some (.d (.int n)), x3, x4, x5, x6, x7, none] ∧ firstBad (fun r => lineKind fs r.2 fd) (n + 1) rows = firstBad (fun r => lineKind fs r.2 fd) (n + 1 + i) (rows.drop i), ⟨_, _, _, _, _, rfl, by simp⟩, ?_, ?_⟩
    · rintro i x ρ hx ⟨x3, x4, x5, x6, x7, rfl, hg⟩
      obtain ⟨y, hy, rfl⟩ := enums_at hx
      obtain ⟨r, hr2, rfl⟩ := map_at hy
      simp only [named1] at k
      have hst := bad_step (p := fun r => lineKind fs r.2 fd) (n := n + 1 + i) hr2
      rw [hg, hst] at k
      skip
      walk_at "d"
      refine ⟨.str fd, at_nat (i := 1) rfl, fs, r.2, fd, rfl, ok, ?_⟩
      cases hh : lineKind fs r.2 fd with
      | true =>
        refine ⟨_, _, _, _, _, rfl, hg.trans (hst.trans ?_)⟩
        rw [if_pos hh]
        congr 1
        omega
      | false =>
        rw [hh, if_neg (by decide)] at k
        exact k
    · rintro ρ ⟨x3, x4, x5, x6, x7, rfl, hg⟩
      rw [enums_len, List.length_map, List.drop_length] at hg
      simp only [named1] at k
      rw [hg] at k
      exact k
  | bare wd =>
    simp only [tagF, restF] at tag0 ⊢
    rcases fo with e | e | e <;> (subst e; walk_at "d"; refine ⟨_, tag0, ?_⟩; walk_at "d"; exact k)
  | int lo hi =>
    simp only [tagF, restF] at tag0 ⊢
    walk_at "d"
    refine ⟨_, tag0, ?_⟩
    walk_at "d"
    exact k
  | word wd =>
    simp only [tagF, restF] at tag0 ⊢
    walk_at "d"
    refine ⟨_, tag0, ?_⟩
    walk_at "d"
    exact k
end
end Bk
end
section
--@@ genb
set_option Elab.async false
set_option linter.all false
set_option maxRecDepth 100000
set_option maxHeartbeats 4000000
set_option pp.maxSteps 3000
set_option synthInstance.maxHeartbeats 4000000
set_option synthInstance.maxSize 100000
namespace Bk
open PySem PySem.Spec PyProof.Rows L2 Tg Dw En
local macro_rules | `(tactic| walk_at "d") => `(tactic| simp (maxSteps := 4000000) only [DVar, DCon, DLock, DLockV, DCons, DNil, DOp, DOpN, DUn, DTup, DLst, DCB, DCBN, DMt, DMtN, isB, DB, DNot, DAnd, DOr, DAndV, DOrV, DNotV, DIf, DChain, DNext, DSeq, DIfS, DRet, DDrop, DSet, DSetN, GName, GNil, GCons, GTup, DAsgG, DPar, isL, isT, isS, isI, IList, ITup, IStr, IRng1, IRng2, DFor, DLc, DYes, RInt, RIntC, RStr, RCatS, eqC, REq, RNe, isNone, RIsN, RNotN, RInS, RIx, RSlS, ONone, OSome, DSl, DSlN, on1, on2, RLen, RIntOf, RIntS, RStrI, RAbs, RMin2, RMax2, RAll, RAny, NList, RTuple, RReprD, MStarts, MFind, MJoin, tyB, DIs, DIs3, DApp, DCall, DCallX, DRaise, startD, RAdd, RLe, RInX, NCat, RMulX, NSlL, DFzS, DAug, DCallP, startP, wipeD, IItems, DDGet, DDIn, NSortedD, NListD, MDict, DCBM, DParND, DParNN, DPar3N, DPar3, GPut, DPeek, DNe0, DPop, DLenO, DPar3M, DRepl, DDisp1, DNone1, DLam, kD, DMatch, DArms, NSplit, NSortedS, DStar, DDc, flD, inF, eqF, DPeek1, restS, pickS, DLenSet, DSortSet, RDeq, RDne, RDin, DLc2, IEnAt, IKeys, IEnum, IZip, MStarts1, DStarC, DStarS, isStr, ISeq, RCatT, RSlT, RSum, MJoin2, NRep, DParDN, DExt, DListItems, GLst, DPar3DNN, DPutNew, List.length_cons, List.length_nil, List.map_cons, List.map_nil, List.replicate_succ, List.replicate_zero, List.cons_append, List.nil_append, List.getElem?_cons_zero, List.getElem?_cons_succ, List.set_cons_zero, List.set_cons_succ, Nat.reduceAdd, Nat.reduceSub, Nat.zero_add, Bool.not_true, Bool.not_false, Bool.false_eq_true, if_true, if_false, reduceIte, reduceCtorEq, beq_self_eq_true, Bool.true_or, Bool.or_true, Bool.false_or, Bool.or_false, String.reduceBEq, Option.some.injEq, false_and, and_false, exists_const, true_and, and_true, PyData.str.injEq, exists_eq', exists_eq_left', Nat.reduceLeDiff, DV.l.injEq, DV.m.injEq, DV.pot.injEq, List.all_cons, List.all_nil, List.any_cons, List.any_nil, Bool.and_self, Bool.and_true, Bool.true_and, List.zipWith_cons_cons, List.zipWith_nil_right])
def membersBy (fs : Forms) (x : Str) : List Str := match lookF x fs with
  | some (.either ms) => ms
  | _ => []
section
variable {P : Program} {w : World} {K : PySem.W.Frag} {mg : Str → Option Value} {base : Heap}
def FMem : DF := fun ds Kk => ∃ (fs : Forms) (x : Str), ds = [encD fs, .str x] ∧ (∀ r ∈ fs, okF r.2) ∧ hasF fs x = true ∧ Kk (.tuple ((membersBy fs x).map .str))
theorem ok_mem (T : Tx P K mg) : FnOk P w K mg base CX0 1 T.a_members_by T.fd_members_by ["forms", "name"] (spD FMem) := by
  refine Dw.okD T.F_members_by sc_members_by (fun ds Kk h => ?_) (fun cdv A outer s H E ds Kk hr h => ⟨_, _, (pss_one (ps_ret (pe_ifExp (pt_cmpR dEq (pe_ix dIx (pe_dget (hu_of hr) (pv 0) (pv 1) (fun _ _ => rfl)) pe_int (fun _ _ => rfl)) (pe_glob (v := .str "either") (by rfl) T.m_EITHER ⟨_, rfl⟩) (nomark _)) (pe_ix dIx (pe_dget (hu_of hr) (pv 0) (pv 1) (fun _ _ => rfl)) pe_int (fun _ _ => rfl)) (pe_tup pa_nil)))), inferInstance, ?_⟩)
  · obtain ⟨fs, x, rfl, _⟩ := h
    rfl
  obtain ⟨fs, x, rfl, ok, hx, k⟩ := h
  obtain ⟨f, hf⟩ : ∃ f, lookF x fs = some f := by
    unfold hasF at hx
    rw [← lookF_some] at hx
    exact Option.isSome_iff_exists.mp hx
  walk_at "d"
  refine ⟨encP fs, rfl, encF f, by rw [look_enc, hf]; rfl, ?_⟩
  rw [encF_tag]
  refine ⟨.str (tagF f), at_nat (i := 0) rfl, ?_⟩
  dsimp only
  have fo := ok _ (lookF_mem hf)
  by_cases ht : tagF f = Str.ofString "either"
  · rw [if_pos (decide_eq_true ht)]
    obtain ⟨ms, rfl⟩ : ∃ ms, f = .either ms := by
      cases f with
      | either ms => exact ⟨ms, rfl⟩
      | bare w => rcases fo with e | e | e <;> (simp only [tagF] at ht; rw [e] at ht; exact absurd ht (by decide))
      | _ => simp only [tagF] at ht; exact absurd ht (by decide)
    refine ⟨encP fs, rfl, encF (.either ms), by rw [look_enc, hf]; rfl, ?_⟩
    rw [show membersBy fs x = ms by unfold membersBy; rw [hf]] at k
    exact ⟨_, at_nat (i := 1) rfl, k⟩
  · rw [if_neg (by rw [decide_eq_true_eq]; exact ht)]
    rw [show membersBy fs x = [] by
      unfold membersBy
      rw [hf]
      cases f with
      | either ms => exact absurd rfl ht
      | _ => rfl] at k
    exact k
/-! ### what is met -/
def rch (fs : Forms) : Nat → List Str → List Str
  | 0, ms => ms
  | k + 1, ms => rch fs k ms ++ (rch fs k ms).flatMap (membersBy fs)
def hasRing (fs : Forms) (x : Str) : Bool := decide (x ∈ rch fs fs.length (membersBy fs x))
structure Closed (fs : Forms) : Prop where
  ok : ∀ r ∈ fs, okF r.2
  few : fs.length ≤ 30
  mem : ∀ x y, y ∈ membersBy fs x → hasF fs y = true
  len : ∀ x, (membersBy fs x).length ≤ 30
theorem nd_len : ∀ {l m : List Str}, l.Nodup → (∀ x ∈ l, x ∈ m) → l.length ≤ m.length
  | [], m, _, _ => Nat.zero_le _
  | a :: l, m, nd, h => by
    have ha := h a List.mem_cons_self
    rw [List.nodup_cons] at nd
    have q := nd_len (l := l) (m := m.erase a) nd.2 fun x hx => (List.mem_erase_of_ne (fun e => nd.1 (by rw [← e]; exact hx))).mpr (h x (List.mem_cons_of_mem _ hx))
    rw [List.length_erase_of_mem ha] at q
    have := List.length_pos_of_mem ha
    rw [List.length_cons]
    omega
theorem flat_len {f : Str → List Str} {c : Nat} (h : ∀ x, (f x).length ≤ c) : ∀ l : List Str, (l.flatMap f).length ≤ l.length * c
  | [] => by simp
  | x :: l => by
    rw [List.flatMap_cons, List.length_append, List.length_cons, Nat.succ_mul]
    have := flat_len h l
    have := h x
    omega
def FRing : DF := fun ds Kk => ∃ (fs : Forms) (x : Str), ds = [encD fs, .str x] ∧ Closed fs ∧ hasF fs x = true ∧ Kk (.bool (hasRing fs x))
theorem ok_ring (T : Tx P K mg) : FnOk P w K mg base CX0 2 T.a_has_ring T.fd_has_ring ["forms", "name"] (spD FRing) := by
  have G_members_by := ok_mem (w := w) (base := base) T
  refine Dw.okD T.F_has_ring sc_has_ring (fun ds Kk h => ?_) (fun cdv A outer s H E ds Kk hr h => ⟨_, _, (pss_cons (ps_set (i := 2) sc_has_ring.nd rfl (Or.inl rfl) (pe_call G_members_by (hr.mono (by first | decide | omega)) (by rfl) T.m_members_by T.F_members_by.kp T.b_members_by .nil pass0 (pa_cons (pv 0) (pa_cons (pv 1) pa_nil))))
      (pss_cons (ps_for PassesOwn.never rfl (pi_keys (pv 0)) (pg_name (i := 3) sc_has_ring.nd rfl (Or.inl rfl)) (pss_one (ps_set (i := 2) sc_has_ring.nd rfl (Or.inl rfl) (pe_fz (pe_callB (Ts.cr_sortT rfl) (by rfl) T.n_sorted PyProof.Rows.Boot.«sorted» (pa_cons (pe_callTy (Ts.cr_setT rfl) (by rfl) T.n_set PyProof.Rows.Boot.«set» (pa_cons (pe_fz (pe_lst (StX.pa_star (pv 2) (StX.pa_star (pe_fz (pe_lc2 (own := [("one", 4), ("member", 5)]) (g := gName 4) (g1 := gName 5) (tt := tYes) (tt1 := tYes) (by rfl) sc_has_ring.nd (pi_seq (pv 2)) (blkOk_by (own := [("one", 4), ("member", 5)]) (N := ["forms", "name", "met", "turn", "one", "member"]) (sc := defScope s_has_ring) (by decide +kernel)) (vs1 := [5]) (by decide) (fun _ _ _ _ _ => (pg_name (i := 4) sc_has_ring.nd rfl (Or.inl rfl))) (fun _ _ _ _ _ => pts_nil) (fun _ _ _ _ _ => (pi_tupK (K := K) rfl (pe_call G_members_by (hr.mono (by first | decide | omega)) (by rfl) T.m_members_by T.F_members_by.kp T.b_members_by .nil pass0 (pa_cons (pv 0) (pa_cons (pv 4) pa_nil))))) (fun _ _ _ _ _ => (pg_name (i := 5) sc_has_ring.nd rfl (Or.inl rfl))) (fun _ _ _ _ _ => pts_nil) (fun _ _ _ _ _ => (pv 5)))) pa_nil)))) pa_nil)) pa_nil))))))
      (pss_one (ps_ret (pe_cmpR dInX (pv 1) (pv 2) (by rfl)))))), inferInstance, ?_⟩)
  · obtain ⟨fs, x, rfl, _⟩ := h
    rfl
  obtain ⟨fs, x, rfl, cl, hx, k⟩ := h
  walk_at "d"
  refine ⟨fs, x, rfl, cl.ok, hx, encP fs, rfl, fun i ρ => ∃ (zs : List Str) (d2 : PyData) (x3 : Option DV), ρ = [some (.d (encD fs)), some (.d (.str x)), some (.d d2), x3, none, none] ∧ (d2 = .list (zs.map .str) ∨ d2 = .tuple (zs.map .str)) ∧ (∀ y, y ∈ zs ↔ y ∈ rch fs i (membersBy fs x)) ∧ zs.length ≤ 30 ∧ ∀ y ∈ zs, hasF fs y = true, ⟨membersBy fs x, _, _, rfl, .inr rfl, fun y => Iff.rfl, cl.len x, fun y hy => cl.mem x y hy⟩, ?_, ?_⟩
  · rintro i ky ρ hk ⟨zs, d2, x3, rfl, hd, hm, hlz, hz⟩
    have ylen := flat_len (f := membersBy fs) (c := 30) cl.len zs
    have y1 : (zs ++ zs.flatMap (membersBy fs)).length ≤ 1000 := by
      rw [List.length_append]
      have : zs.length * 30 ≤ 30 * 30 := Nat.mul_le_mul_right 30 hlz
      omega
    have ymem : ∀ y ∈ zs ++ zs.flatMap (membersBy fs), hasF fs y = true := fun y hy => by
      rcases List.mem_append.mp hy with q | q
      · exact hz y q
      · obtain ⟨u, _, q⟩ := List.mem_flatMap.mp q
        exact cl.mem u y q
    have dlen : (Ts.dedT (zs ++ zs.flatMap (membersBy fs))).length ≤ 30 := by
      refine Nat.le_trans (nd_len (m := fs.map (·.1)) (Ts.nodup_dedT _) fun y hy => ?_) (by rw [List.length_map]; exact cl.few)
      have := ymem y (Ts.mem_dedT.mp hy)
      unfold hasF at this
      exact of_decide_eq_true this
    have fin : ∀ vs : List Str, vs.Perm (Ts.dedT (zs ++ zs.flatMap (membersBy fs))) → (∀ y, y ∈ vs ↔ y ∈ rch fs (i + 1) (membersBy fs x)) ∧ vs.length ≤ 30 ∧ ∀ y ∈ vs, hasF fs y = true := fun vs pm => by
      refine ⟨fun y => ?_, by rw [pm.length_eq]; exact dlen, fun y hy => ymem y (Ts.mem_dedT.mp (pm.mem_iff.mp hy))⟩
      rw [pm.mem_iff, Ts.mem_dedT]
      show y ∈ zs ++ _ ↔ y ∈ rch fs i (membersBy fs x) ++ (rch fs i (membersBy fs x)).flatMap (membersBy fs)
      rw [List.mem_append, List.mem_append, List.mem_flatMap, List.mem_flatMap, hm y]
      constructor
      · rintro (q | ⟨u, q1, q2⟩)
        · exact .inl q
        · exact .inr ⟨u, (hm u).mp q1, q2⟩
      · rintro (q | ⟨u, q1, q2⟩)
        · exact .inl q
        · exact .inr ⟨u, (hm u).mpr q1, q2⟩
    have lc2 : ∀ (d2 : PyData) (Kq : DV → DSt → Prop), Kq (.l ((zs.flatMap (membersBy fs)).map .str)) [some (.d (encD fs)), some (.d (.str x)), some (.d d2), some (.d ky), none, none] → Lc2B (zs.map .str) (GName 4) [4] DYes (ITup (DCall FMem (DCons (DVar 0) (DCons (DVar 4) DNil)))) (GName 5) [5] DYes (DVar 5) [4, 5] [5] [some (.d (encD fs)), some (.d (.str x)), some (.d d2), some (.d ky), none, none] Kq := by
      intro d2 Kq hq
      refine ⟨by rw [List.length_map]; omega, rfl, rfl, fun j acc ρ => acc = ((zs.take j).flatMap (membersBy fs)).map .str ∧ ρ = [some (.d (encD fs)), some (.d (.str x)), some (.d d2), some (.d ky), none, none], ⟨rfl, rfl⟩, ?_, ?_⟩
      · rintro j y acc ρ hy ⟨rfl, rfl⟩
        obtain ⟨z, hz2, rfl⟩ := map_strs hy
        have hzm := List.mem_of_getElem? hz2
        walk_at "d"
        refine ⟨fs, z, rfl, cl.ok, hz z hzm, ?_⟩
        have lm := cl.len z
        have la : ((zs.take j).flatMap (membersBy fs)).length ≤ 900 := by
          have h1 := flat_len (f := membersBy fs) (c := 30) cl.len (zs.take j)
          have h2 : (zs.take j).length ≤ 30 := by rw [List.length_take]; omega
          have h3 : (zs.take j).length * 30 ≤ 30 * 30 := Nat.mul_le_mul_right 30 h2
          omega
        refine ⟨by rw [List.length_map]; omega, rfl, fun m acc ρ => acc = ((zs.take j).flatMap (membersBy fs) ++ (membersBy fs z).take m).map .str ∧ ρ = [some (.d (encD fs)), some (.d (.str x)), some (.d d2), some (.d ky), some (.d (.str z)), none], ⟨by simp, rfl⟩, ?_, ?_⟩
        · rintro m u acc ρ hu ⟨rfl, rfl⟩
          obtain ⟨u, hu2, rfl⟩ := map_strs hu
          walk_at "d"
          refine ⟨by rw [List.length_map, List.length_append, List.length_take]; omega, ?_⟩
          rw [take_succ hu2]
          simp
        · rintro acc ρ ⟨rfl, rfl⟩
          rw [List.length_map, List.take_length]
          refine ⟨?_, rfl⟩
          rw [List.map_inj_right (fun a b e => by injection e), take_succ hz2, List.flatMap_append]
          simp
      · rintro acc ρ ⟨rfl, rfl⟩
        rw [List.length_map, List.take_length]
        exact hq
    have yl : (zs.map PyData.str ++ ((zs.flatMap (membersBy fs)).map PyData.str ++ [])) = (zs ++ zs.flatMap (membersBy fs)).map .str := by rw [List.append_nil, List.map_append]
    rcases hd with rfl | rfl
    · walk_at "d"
      refine lc2 _ _ ?_
      dsimp only
      rw [yl]
      refine ⟨by rw [List.length_map]; exact y1, _, rfl, y1, by omega, fun vs pm _ => ?_⟩
      obtain ⟨f1, f2, f3⟩ := fin vs pm
      exact ⟨vs, _, _, rfl, .inl rfl, f1, f2, f3⟩
    · walk_at "d"
      refine lc2 _ _ ?_
      dsimp only
      rw [yl]
      refine ⟨by rw [List.length_map]; exact y1, _, rfl, y1, by omega, fun vs pm _ => ?_⟩
      obtain ⟨f1, f2, f3⟩ := fin vs pm
      exact ⟨vs, _, _, rfl, .inl rfl, f1, f2, f3⟩
  · rintro ρ ⟨zs, d2, x3, rfl, hd, hm, hlz, hz⟩
    rw [List.length_map, show (encP fs).length = fs.length by unfold encP; rw [List.length_map]] at hm
    have e3 := in_strs x zs
    have e4 : decide (x ∈ zs) = hasRing fs x := by
      unfold hasRing
      rw [decide_eq_decide]
      exact hm x
    simp only [inF, eqF] at e3
    rcases hd with rfl | rfl
    · walk_at "d"
      refine ⟨fl_strs _, ?_⟩
      rw [e3, e4]
      exact k
    · walk_at "d"
      refine ⟨fl_strs _, ?_⟩
      rw [e3, e4]
      exact k
end
end Bk
end
section
set_option Elab.async false
set_option linter.all false
set_option maxRecDepth 100000
set_option maxHeartbeats 4000000
/-! Bk, part M: what a text of lines tells is well formed. -/
namespace Bk
open PySem PySem.Spec PyProof.Rows L2 Tg Dw En
abbrev hdS (w : List Str) : Str := w.headD (Str.ofString "")
theorem deep_nd {a b : Nat} : ∀ (ls : List Str) (m : Int) (found rows : List (List Str)), deepGo a b m ls found = .ok rows → (found.map hdS).Nodup → (rows.map hdS).Nodup
  | [], m, found, rows, h, hf => by
    rw [deepGo] at h
    cases h
    exact hf
  | z :: ls, m, found, rows, h, hf => by
    rw [deepGo] at h
    split at h
    · cases h
    · rename_i ws hw
      split at h
      · rename_i hr
        refine deep_nd ls _ _ _ h ?_
        have h1 : hdS ws ∉ found.map hdS := by
          unfold rowOk at hr
          simp only [Bool.and_eq_true, Bool.not_eq_true'] at hr
          intro q
          have := hr.1.2
          rw [show (found.map fun w => w.headD (Str.ofString "")) = found.map hdS from rfl, List.contains_iff_mem.mpr q] at this
          cases this
        rw [List.map_append, List.nodup_append]
        refine ⟨hf, by simp, ?_⟩
        intro x hx y hy e
        simp only [List.map_cons, List.map_nil, List.mem_singleton] at hy
        subst hy
        subst e
        exact h1 hx
      · cases h
def ndF : Form → Prop
  | .either ms => ms.Nodup
  | _ => True
theorem names_nd {ws : List Str} (h : areNames ws = true) : ws.Nodup := by
  unfold areNames at h
  rw [Bool.and_eq_true] at h
  exact of_decide_eq_true h.2
theorem flat_ok {head : Str} {ws : List Str} {f : Form} (h : flatForm head ws = some f) (hl : ws.length ≤ 1000) : okF f ∧ ndF f := by
  unfold flatForm at h
  split at h
  · rename_i h0
    split at h
    · cases h
      exact ⟨h0, trivial⟩
    · cases h
  · split at h
    · split at h
      · unfold intForm at h
        split at h
        · split at h
          · cases h; exact ⟨trivial, trivial⟩
          · cases h
        · cases h
      · cases h
    · split at h
      · split at h
        · unfold listForm at h
          split at h
          · split at h
            · split at h
              · cases h; exact ⟨trivial, trivial⟩
              · split at h
                · split at h
                  · cases h; exact ⟨trivial, trivial⟩
                  · cases h
                · cases h
            · cases h
          · cases h
        · cases h
      · split at h
        · split at h
          · cases h; exact ⟨trivial, trivial⟩
          · cases h
        · split at h
          · split at h
            · rename_i q
              cases h
              exact ⟨hl, names_nd q.2⟩
            · cases h
          · cases h
theorem form_ok {n : Int} {ws ls : List Str} {f : Form} (h : formIn n ws ls = .ok f) (hw : ws.length ≤ 1000) (hl : ls.length ≤ 1000) : okF f ∧ ndF f := by
  unfold formIn at h
  split at h
  · split at h
    · cases h
    · rename_i rows hg
      cases h
      refine ⟨⟨?_, ?_⟩, trivial⟩
      · rw [List.map_map]
        exact deep_nd ls _ _ _ hg (by simp)
      · rw [List.length_map, (deep_ok ls _ _ _ hg (by simp)).2]
        simpa using hl
  · split at h
    · split at h
      · cases h
      · split at h
        · cases h
        · rename_i rows hg
          cases h
          refine ⟨?_, trivial⟩
          show (rows.map _).length ≤ 1000
          rw [List.length_map, (deep_ok ls _ _ _ hg (by simp)).2]
          simpa using hl
    · split at h
      · cases h
      · rename_i f' hf
        split at h
        · cases h
        · cases h
          exact flat_ok hf (by rw [List.length_drop]; omega)
structure RowsOk (c : Nat) (rows : Rows) : Prop where
  nd : (rows.map (·.1)).Nodup
  ok : ∀ r ∈ rows, okF r.2.1 ∧ ndF r.2.1 ∧ 1 ≤ r.2.2 ∧ r.2.2 ≤ c
theorem words_len {z : Str} {ws : List Str} (h : wordsIn z = some ws) : ws.length ≤ z.length + 2 := by
  unfold wordsIn at h
  split at h
  · cases h
  · rw [← Option.some.inj h]
    exact split_le z (Str.ofString " ")
theorem told_ok {ls : List Str} (hl : Lines ls) : ∀ (ps : List (Nat × Nat)) (found rows : Rows), (∀ p ∈ ps, p.1 < ls.length) → toldGo ls ps found = .ok rows → RowsOk ls.length found → RowsOk ls.length rows ∧ rows.length = found.length + ps.length
  | [], found, rows, _, h, hf => by
    rw [toldGo] at h
    cases h
    exact ⟨hf, rfl⟩
  | (a, e) :: ps, found, rows, hp, h, hf => by
    rw [toldGo] at h
    split at h
    · cases h
    · rename_i ws hw
      split at h
      · cases h
      · rename_i nc
        split at h
        · cases h
        · rename_i f hform
          have la : a < ls.length := hp (a, e) List.mem_cons_self
          have hz : (ls.getD a (Str.ofString "")).length ≤ 998 := by
            rw [List.getD_eq_getElem?_getD, List.getElem?_eq_getElem la]
            exact (hl.2 _ (List.getElem_mem la)).1
          have hl1 := hl.1
          have fo := form_ok hform (by have := words_len hw; omega) (by rw [List.length_take, List.length_drop]; omega)
          have ro : RowsOk ls.length (found ++ [(word1 ws, f, ((a : Nat) : Int) + 1)]) := by
            constructor
            · rw [List.map_append, List.nodup_append]
              refine ⟨hf.nd, by simp, ?_⟩
              intro x hx y hy e
              simp only [List.map_cons, List.map_nil, List.mem_singleton] at hy
              subst hy
              subst e
              exact nc (.inr (.inr hx))
            · intro r hr
              rcases List.mem_append.mp hr with q | q
              · exact hf.ok r q
              · rw [List.mem_singleton.mp q]
                exact ⟨fo.1, fo.2, by show (1 : Int) ≤ (a : Int) + 1; omega, by show (a : Int) + 1 ≤ ls.length; omega⟩
          obtain ⟨q1, q2⟩ := told_ok hl ps _ _ (fun p h => hp p (List.mem_cons_of_mem _ h)) h ro
          refine ⟨q1, ?_⟩
          rw [q2, List.length_append, List.length_singleton, List.length_cons]
          omega
theorem kinds_ok {ls : List Str} {rows : Rows} (hl : Lines ls) (h : kindsTold ls = .ok rows) : RowsOk ls.length rows ∧ rows.length = (headsAt ls).length := by
  unfold kindsTold at h
  split at h
  · cases h
  · rename_i h0
    obtain ⟨q1, q2⟩ := told_ok hl _ _ _ (fun p hp => heads_lt (List.of_mem_zip hp).1) h ⟨by simp, by simp⟩
    refine ⟨q1, ?_⟩
    rw [q2, List.length_zip, List.length_append, List.length_tail]
    have : (headsAt ls) ≠ [] := fun e => by rw [e] at h0; simp at h0
    have := List.length_pos_iff.mpr this
    simp
    omega
/-! ### a text told -/
inductive Told where
  | bad (n : Int)
  | unnamed (n : Int)
  | ring (n : Int)
  | ok (rows : Rows)
def formsOf (rows : Rows) : Forms := rows.map fun r => (r.1, r.2.1)
def namedGo (fs : Forms) : Rows → Option Int
  | [] => none
  | r :: rs => match named1 fs r.2.2 r.2.1 with
    | some m => some m
    | none => namedGo fs rs
def isEither : Form → Bool
  | .either _ => true
  | _ => false
def ringGo (fs : Forms) : Rows → Option Int
  | [] => none
  | r :: rs => if (isEither r.2.1 && hasRing fs r.1) = true then some r.2.2 else ringGo fs rs
def told (z : Str) : Told := match kindsTold (Txt.split z (Str.ofString "\n")) with
  | .error n => .bad n
  | .ok rows => match namedGo (formsOf rows) rows with
    | some m => .unnamed m
    | none => match ringGo (formsOf rows) rows with
      | some m => .ring m
      | none => .ok rows
theorem named_all {fs : Forms} : ∀ {rows : Rows}, namedGo fs rows = none → ∀ r ∈ rows, named1 fs r.2.2 r.2.1 = none
  | [], _, r, h => by cases h
  | a :: rs, h, r, hr => by
    rw [namedGo] at h
    split at h
    · cases h
    · rename_i q
      rcases List.mem_cons.mp hr with rfl | hr
      · exact q
      · exact named_all h r hr
theorem closed_of {c : Nat} {rows : Rows} (ro : RowsOk c rows) (few : rows.length ≤ 30) (hn : namedGo (formsOf rows) rows = none) : Closed (formsOf rows) := by
  have hmem : ∀ x y, y ∈ membersBy (formsOf rows) x → hasF (formsOf rows) y = true := by
    intro x y hy
    unfold membersBy at hy
    split at hy
    · rename_i ms hf
      obtain ⟨r, hr, e⟩ := List.mem_map.mp (lookF_mem hf)
      have q := named_all hn r hr
      injection e with e1 e2
      rw [e2] at q
      simp only [named1] at q
      split at q
      · rename_i ha
        exact List.all_eq_true.mp ha y hy
      · cases q
    · cases hy
  refine ⟨fun r hr => ?_, by unfold formsOf; rw [List.length_map]; exact few, hmem, fun x => ?_⟩
  · obtain ⟨s, hs, rfl⟩ := List.mem_map.mp hr
    exact (ro.ok s hs).1
  · have nd : (membersBy (formsOf rows) x).Nodup := by
      unfold membersBy
      split
      · rename_i ms hf
        obtain ⟨r, hr, e⟩ := List.mem_map.mp (lookF_mem hf)
        have q := (ro.ok r hr).2.1
        injection e with e1 e2
        rw [e2] at q
        exact q
      · simp
    refine Nat.le_trans (nd_len (m := (formsOf rows).map (·.1)) nd fun y hy => by have := hmem x y hy; unfold hasF at this; exact of_decide_eq_true this) ?_
    unfold formsOf
    rw [List.length_map, List.length_map]
    exact few
theorem ring_step {fs : Forms} {rows : Rows} {i : Nat} {r : Str × Form × Int} (h : rows[i]? = some r) : ringGo fs (rows.drop i) = if (isEither r.2.1 && hasRing fs r.1) = true then some r.2.2 else ringGo fs (rows.drop (i + 1)) := by
  have hi := (List.getElem?_eq_some_iff.mp h)
  rw [List.drop_eq_getElem_cons hi.1, hi.2]
  rfl
theorem named_step {fs : Forms} {rows : Rows} {i : Nat} {r : Str × Form × Int} (h : rows[i]? = some r) : namedGo fs (rows.drop i) = match named1 fs r.2.2 r.2.1 with
    | some m => some m
    | none => namedGo fs (rows.drop (i + 1)) := by
  have hi := (List.getElem?_eq_some_iff.mp h)
  rw [List.drop_eq_getElem_cons hi.1, hi.2]
  rfl
end Bk
end
section
--@@ genb
set_option Elab.async false
set_option linter.all false
set_option maxRecDepth 100000
set_option maxHeartbeats 4000000
set_option pp.maxSteps 3000
set_option synthInstance.maxHeartbeats 4000000
set_option synthInstance.maxSize 100000
namespace L2
open PySem PySem.Spec PyProof.Rows
section
variable {X : Cx}
theorem sw_trueD {kx vx : Expr} {gs : List Comprehension} {scope : Scope} {pos py : Pos} {y : Str} {l : Nat} {env : Env} (hk : env.scope.kind = .function) (hy : env.scope.names.lookup y = some .local) (hl : (py.line == pos.line) = true)
    (ha : (scope.names.any fun (n, k) => n == y && (k == .local || k == .cell)) = false) : swapsWith (.DictComp kx vx gs scope pos) (some (.Name y py)) l env = pure true := by
  have ky : env.kindOf y = some .local := hy
  have hb : env.blockKind = .function := by unfold Env.blockKind; rw [hk]; rfl
  unfold swapsWith
  simp only [hb, ky, ha, Expr.pos, hl]
  rfl
/-- name = {k: v for ..} on one line, the name a local -/
theorem ps_setDc {i : Nat} {y : Str} {py : Pos} {kx vx tg iter : Expr} {ifs : List Expr} {scope : Scope} {own : List (Str × Nat)} {pos spos : Pos} {wi : TI} {g : TG} {tt : TT} {tk tv : TE} (hc : X.calm = true) (hN : X.N.Nodup) (hy : X.N[i]? = some y) (hyl : X.env.scope.names.lookup y = some .local)
    (hsw : swapsWith (.DictComp kx vx [⟨tg, iter, ifs, 0⟩] scope pos) (some (.Name y py)) spos.line X.env = pure true) (hi : PI X tg iter wi) (ok : BlkOk X.N X.env.scope scope own)
    (hg : ∀ (s : Shared) (H : Hp) (C : Addr) (cl : List (Str × Addr)) (fp : List Addr), PG (X.blk s H scope (compEnvC scope cl C X.env) fp) tg g) (ht : ∀ (s : Shared) (H : Hp) (C : Addr) (cl : List (Str × Addr)) (fp : List Addr), PTs (X.blk s H scope (compEnvC scope cl C X.env) fp) ifs tt)
    (hk : ∀ (s : Shared) (H : Hp) (C : Addr) (cl : List (Str × Addr)) (fp : List Addr), PE (X.blk s H scope (compEnvC scope cl C X.env) fp) kx tk)
    (he : ∀ (s : Shared) (H : Hp) (C : Addr) (cl : List (Str × Addr)) (fp : List Addr), PE (X.blk s H scope (compEnvC scope cl C X.env) fp) vx tv) (hs : ∀ x, foldedSetIterable iter X.env x = pure x := by intro _; rfl) :
    PS X (.Assign [.Name y py] (.DictComp kx vx [⟨tg, iter, ifs, 0⟩] scope pos) spos) (tAsg (tDc wi g tt tk tv (own.map (·.2))) (gName i)) := by
  refine ⟨fun pins s σ H D I h => ?_⟩
  rw [exec_Assign_Name_used _ _ _ _ hsw]
  refine wpAny_bind (wpAny_standAt (wpAny_bind ?_))
  show wpAny _ X.A (do let _ ← comprehension (.DictComp kx vx [⟨tg, iter, ifs, 0⟩] scope pos) scope X.env (firstIterPos [⟨tg, iter, ifs, 0⟩] pos) newDict false (eval iter X.env) (some (assign (.Name y py) X.env))) _ _ s
  have h : tDc wi g tt tk tv (own.map (·.2)) σ H (fun x H1 => gName i x σ H1 D.nx) := h
  refine wpAny_bind (thn (dc_core (Qf := fun _ s' => SP X pins D .next s') hc hN I hi ok hg ht hk he hs h fun L C s' m H' I' q hn f => ?_) fun _ s' hq => wpAny_pure (wpAny_pure hq))
  show wpAny _ _ (assign (.Name y py) X.env (.ref L)) _ _ _
  refine wpAny_assign_Name (store_ok2 (v := V.ref L) I' hN hy (.inl hyl) rfl (fun s2 I2 ⟨a, sb, ha⟩ => ?_) (.inr hyl))
  obtain ⟨f0, f1, f2, f3, f4, f5⟩ := f
  have haC : C ≠ a := by
    rcases ha with z | z
    · rw [z]; exact f1
    · exact fun e => f4 y a z e.symm
  refine ⟨m, hn.sameBut sb haC, fun h3 sb3 => ?_⟩
  exact ⟨_, H', I2.turned (t' := s2.toks) (fun b o hb e => (sb3.2 b hb).trans e) f0 f1 f3 f4 f5, q⟩
end
end L2
namespace Bk
open PySem PySem.Spec PyProof.Rows L2 Tg Dw En
local macro_rules | `(tactic| walk_at "d") => `(tactic| simp (maxSteps := 4000000) only [DVar, DCon, DLock, DLockV, DCons, DNil, DOp, DOpN, DUn, DTup, DLst, DCB, DCBN, DMt, DMtN, isB, DB, DNot, DAnd, DOr, DAndV, DOrV, DNotV, DIf, DChain, DNext, DSeq, DIfS, DRet, DDrop, DSet, DSetN, GName, GNil, GCons, GTup, DAsgG, DPar, isL, isT, isS, isI, IList, ITup, IStr, IRng1, IRng2, DFor, DLc, DYes, RInt, RIntC, RStr, RCatS, eqC, REq, RNe, isNone, RIsN, RNotN, RInS, RIx, RSlS, ONone, OSome, DSl, DSlN, on1, on2, RLen, RIntOf, RIntS, RStrI, RAbs, RMin2, RMax2, RAll, RAny, NList, RTuple, RReprD, MStarts, MFind, MJoin, tyB, DIs, DIs3, DApp, DCall, DCallX, DRaise, startD, RAdd, RLe, RInX, NCat, RMulX, NSlL, DFzS, DAug, DCallP, startP, wipeD, IItems, DDGet, DDIn, NSortedD, NListD, MDict, DCBM, DParND, DParNN, DPar3N, DPar3, GPut, DPeek, DNe0, DPop, DLenO, DPar3M, DRepl, DDisp1, DNone1, DLam, kD, DMatch, DArms, NSplit, NSortedS, DStar, DDc, flD, inF, eqF, DPeek1, restS, pickS, DLenSet, DSortSet, RDeq, RDne, RDin, DLc2, IEnAt, IKeys, IEnum, IZip, MStarts1, DStarC, DStarS, isStr, ISeq, RCatT, RSlT, RSum, MJoin2, NRep, DParDN, DExt, DListItems, GLst, DPar3DNN, DPutNew, List.length_cons, List.length_nil, List.map_cons, List.map_nil, List.replicate_succ, List.replicate_zero, List.cons_append, List.nil_append, List.getElem?_cons_zero, List.getElem?_cons_succ, List.set_cons_zero, List.set_cons_succ, Nat.reduceAdd, Nat.reduceSub, Nat.zero_add, Bool.not_true, Bool.not_false, Bool.false_eq_true, if_true, if_false, reduceIte, reduceCtorEq, beq_self_eq_true, Bool.true_or, Bool.or_true, Bool.false_or, Bool.or_false, String.reduceBEq, Option.some.injEq, false_and, and_false, exists_const, true_and, and_true, PyData.str.injEq, exists_eq', exists_eq_left', Nat.reduceLeDiff, DV.l.injEq, DV.m.injEq, DV.pot.injEq, List.all_cons, List.all_nil, List.any_cons, List.any_nil, Bool.and_self, Bool.and_true, Bool.true_and, List.zipWith_cons_cons, List.zipWith_nil_right])
theorem tag_either {f : Form} (fo : okF f) (h : isEither f = true) : tagF f = Str.ofString "either" := by
  cases f with
  | either ms => rfl
  | _ => cases h
theorem either_tag {f : Form} (fo : okF f) (ht : tagF f = Str.ofString "either") : isEither f = true := by
  cases f with
  | either ms => rfl
  | bare w => rcases fo with e | e | e <;> (simp only [tagF] at ht; rw [e] at ht; exact absurd ht (by decide))
  | _ => simp only [tagF] at ht; exact absurd ht (by decide)
def recF : PyData → PyData
  | .tuple [_, y, _] => y
  | _ => .none
section
variable {P : Program} {w : World} {K : PySem.W.Frag} {mg : Str → Option Value} {base : Heap}
def TextOk (z : Str) : Prop := z.length ≤ 1000000 ∧ Lines (Txt.split z (Str.ofString "\n")) ∧ (headsAt (Txt.split z (Str.ofString "\n"))).length ≤ 30
def FForms (Cb Cu Cr : Addr) : DFX := fun ds Kk Ex => ∃ d, ds = [d] ∧ (match d with
  | .str z => TextOk z ∧ (match told z with
    | .bad n => Ex Cb (.int n)
    | .unnamed n => Ex Cu (.int n)
    | .ring n => Ex Cr (.int n)
    | .ok rows => Kk (encD (formsOf rows)))
  | _ => Ex Cb (.int 0))
theorem ok_forms (T : Tx P K mg) : FnOk P w K mg base (L2.CX P w) 8 T.a_forms_in T.fd_forms_in ["text"] (spX (FForms T.C_BadBook T.C_Unnamed T.C_Ring)) := by
  have G_kinds_told := ok_told (w := w) (base := base) T
  have G_check_named := ok_named (w := w) (base := base) T
  have G_has_ring := ok_ring (w := w) (base := base) T
  refine Dw.okX T.F_forms_in sc_forms_in (fun ds Kk Ex h => ?_) (fun cdv A outer s H E ds Kk Ex ex hr h => ⟨_, _, (pss_cons (ps_if (pt_not (pt_val (pe_callB call_isD (by rfl) T.n_isinstance PyProof.Rows.Boot.«isinstance» (pa_cons (pv 0) (pa_cons (pe_bltn (v := .ty "str") (by rfl) T.n_str PyProof.Rows.Boot.«str» rfl) pa_nil))))) (pss_one (ps_raiseD rfl (takes_of rfl rfl rfl rfl) T.e_BadBook T.ini (hr.mono (by first | decide | omega)) (by rfl) T.m_BadBook T.b_ini pe_int)) pss_nil)
      (pss_cons (ps_set (i := 1) sc_forms_in.nd rfl (Or.inl rfl) (pe_call G_kinds_told (hr.mono (by first | decide | omega)) (by rfl) T.m_kinds_told T.F_kinds_told.kp T.b_kinds_told .nil (passes_call (takes_of rfl rfl rfl rfl) fun _ _ _ _ h => h) (pa_cons (pe_fz (pe_bm PySem.F.plainAttrs_str PySem.F.slot_str_split PySem.F.type_str_split mSplit (pv 0) (pa_cons (pe_glob (v := .str "\n") (by rfl) T.m_FEED ⟨_, rfl⟩) pa_nil))) pa_nil)))
      (pss_cons (ps_fzS (i := 2) (ps_setDc (i := 2) (own := [("name", 3), ("form", 4), ("number", 5)]) (g := gTup K 3 (gCons (gName 3) (gCons (gName 4) (gCons (gName 5) (gNil))))) (tt := tYes) (by rfl) sc_forms_in.nd rfl rfl (sw_trueD rfl rfl rfl (by decide +kernel)) (pi_list (pv 1)) (blkOk_by (own := [("name", 3), ("form", 4), ("number", 5)]) (N := ["text", "rows", "forms", "name", "form", "number"]) (sc := defScope s_forms_in) (by decide +kernel)) (fun _ _ _ _ _ => (pg_tup (n := 3) rfl (pgs_cons (pg_name (i := 3) sc_forms_in.nd rfl (Or.inl rfl)) (pgs_cons (pg_name (i := 4) sc_forms_in.nd rfl (Or.inl rfl)) (pgs_cons (pg_name (i := 5) sc_forms_in.nd rfl (Or.inl rfl)) pgs_nil))))) (fun _ _ _ _ _ => pts_nil) (fun _ _ _ _ _ => (pv 3)) (fun _ _ _ _ _ => (pv 4))))
      (pss_cons (ps_for (passes_of rfl) rfl (pi_list (pv 1)) (pg_tup (n := 3) rfl (pgs_cons (pg_name (i := 3) sc_forms_in.nd rfl (Or.inl rfl)) (pgs_cons (pg_name (i := 4) sc_forms_in.nd rfl (Or.inl rfl)) (pgs_cons (pg_name (i := 5) sc_forms_in.nd rfl (Or.inl rfl)) pgs_nil)))) (pss_one (ps_expr (pe_call G_check_named (hr.mono (by first | decide | omega)) (by rfl) T.m_check_named T.F_check_named.kp T.b_check_named .nil (passes_call (takes_of rfl rfl rfl rfl) fun _ _ _ _ h => h) (pa_cons (pv 2) (pa_cons (pv 4) (pa_cons (pv 5) pa_nil)))))))
      (pss_cons (ps_for (passes_of rfl) rfl (pi_list (pv 1)) (pg_tup (n := 3) rfl (pgs_cons (pg_name (i := 3) sc_forms_in.nd rfl (Or.inl rfl)) (pgs_cons (pg_name (i := 4) sc_forms_in.nd rfl (Or.inl rfl)) (pgs_cons (pg_name (i := 5) sc_forms_in.nd rfl (Or.inl rfl)) pgs_nil)))) (pss_one (ps_if (PW.pt (pw_and (pt_cmpR dEq (pe_ix dIx (pv 4) pe_int (fun _ _ => rfl)) (pe_glob (v := .str "either") (by rfl) T.m_EITHER ⟨_, rfl⟩) (nomark _)) (pw_and1 (pt_val (pe_call G_has_ring (hr.mono (by first | decide | omega)) (by rfl) T.m_has_ring T.F_has_ring.kp T.b_has_ring .nil pass0 (pa_cons (pv 2) (pa_cons (pv 3) pa_nil))))))) (pss_one (ps_raiseD rfl (takes_of rfl rfl rfl rfl) T.e_Ring T.ini (hr.mono (by first | decide | omega)) (by rfl) T.m_Ring T.b_ini (pv 5))) pss_nil)))
      (pss_one (ps_ret (pv 2)))))))), inferInstance, ?_⟩)
  · obtain ⟨d, rfl, _⟩ := h
    rfl
  obtain ⟨d, rfl, k⟩ := h
  generalize hR : DSeq (DFor _ _ (DIfS _ _ _)) _ = UR
  generalize hN : DSeq (DFor _ _ (DDrop _)) _ = UN
  cases d with
  | str z =>
    obtain ⟨⟨lz, hl, few⟩, k⟩ := k
    walk_at "d"
    refine ⟨by decide, by omega, Txt.split z (Str.ofString "\n"), rfl, hl, ?_⟩
    unfold told at k
    cases hk : kindsTold (Txt.split z (Str.ofString "\n")) with
    | error n =>
      rw [hk] at k
      exact k
    | ok rows =>
      rw [hk] at k
      dsimp only at k ⊢
      obtain ⟨ro, rl⟩ := kinds_ok hl hk
      have rl : rows.length ≤ 30 := by omega
      refine dc_map recK recF (fun j y hy Q hQ => ?_) ?_ ?_ (by rw [List.length_map]; omega)
      · obtain ⟨r, hr2, rfl⟩ := map_at hy
        unfold encRow
        walk_at "d"
        exact hQ _ rfl
      · rw [List.map_map]
        exact ro.nd
      · rw [show (rows.map encRow).map (fun x => (recK x, recF x)) = encP (formsOf rows) by
          unfold encP formsOf
          rw [List.map_map, List.map_map]
          rfl]
        walk_at "d"
        rw [show PyData.dict (strP (encP (formsOf rows))) = encD (formsOf rows) from rfl]
        generalize hfs : formsOf rows = fs at k ⊢
        have fok : ∀ r ∈ fs, okF r.2 := fun r hr => by
          rw [← hfs] at hr
          obtain ⟨s, hs, rfl⟩ := List.mem_map.mp hr
          exact (ro.ok s hs).1
        have hl1 := hl.1
        rw [← hN]
        have ring : namedGo fs rows = none → ∀ x3 x4 x5, UR { nx := fun _ => Kk .none, rt := fun d _ => Kk d } [some (.d (.str z)), some (.d (.list (rows.map encRow))), some (.d (encD fs)), x3, x4, x5] := by
          intro hn x3 x4 x5
          rw [hn] at k
          dsimp only at k
          have cl : Closed fs := hfs ▸ closed_of ro rl (by rw [hfs]; exact hn)
          rw [← hR]
          walk_at "d"
          refine ⟨fun i ρ => ∃ x3 x4 x5, ρ = [some (.d (.str z)), some (.d (.list (rows.map encRow))), some (.d (encD fs)), x3, x4, x5] ∧ ringGo fs rows = ringGo fs (rows.drop i), ⟨x3, x4, x5, rfl, rfl⟩, ?_, ?_⟩
          · rintro i y ρ hy ⟨x3, x4, x5, rfl, hg⟩
            obtain ⟨r, hr2, rfl⟩ := map_at hy
            have hrm := List.mem_of_getElem? hr2
            have hst := ring_step (fs := fs) hr2
            have fo := (ro.ok r hrm).1
            have hh : hasF fs r.1 = true := by
              unfold hasF
              rw [← hfs]
              unfold formsOf
              rw [List.map_map]
              exact decide_eq_true (List.mem_map.mpr ⟨r, hrm, rfl⟩)
            unfold encRow
            rw [encF_tag]
            walk_at "d"
            refine ⟨.str (tagF r.2.1), at_nat (i := 0) rfl, ?_⟩
            dsimp only
            by_cases he : isEither r.2.1 = true
            · rw [if_pos (decide_eq_true (tag_either fo he))]
              refine ⟨fs, r.1, rfl, cl, hh, ?_⟩
              cases hq : hasRing fs r.1 with
              | true =>
                rw [hg, hst, if_pos (by rw [he, hq]; rfl)] at k
                exact k
              | false =>
                refine ⟨_, _, _, rfl, hg.trans (hst.trans ?_)⟩
                rw [if_neg (by rw [hq, Bool.and_false]; decide)]
            · rw [if_neg (by rw [decide_eq_true_eq]; exact fun q => he (either_tag fo q))]
              refine ⟨_, _, _, rfl, hg.trans (hst.trans ?_)⟩
              rw [if_neg (by rw [Bool.eq_false_iff.mpr he, Bool.false_and]; decide)]
          · rintro ρ ⟨x3, x4, x5, rfl, hg⟩
            rw [List.length_map, List.drop_length] at hg
            rw [hg] at k
            have k2 : Kk (encD (formsOf rows)) := k
            rw [hfs] at k2
            exact k2
        walk_at "d"
        refine ⟨fun i ρ => ∃ x3 x4 x5, ρ = [some (.d (.str z)), some (.d (.list (rows.map encRow))), some (.d (encD fs)), x3, x4, x5] ∧ namedGo fs rows = namedGo fs (rows.drop i), ⟨_, _, _, rfl, rfl⟩, ?_, ?_⟩
        · rintro i y ρ hy ⟨x3, x4, x5, rfl, hg⟩
          obtain ⟨r, hr2, rfl⟩ := map_at hy
          have hrm := List.mem_of_getElem? hr2
          have hst := named_step (fs := fs) hr2
          obtain ⟨fo, _, b1, b2⟩ := ro.ok r hrm
          unfold encRow
          walk_at "d"
          refine ⟨fs, r.2.1, r.2.2, rfl, by omega, by omega, fok, fo, ?_⟩
          cases hq : named1 fs r.2.2 r.2.1 with
          | some m =>
            rw [hg, hst, hq] at k
            exact k
          | none =>
            refine ⟨_, _, _, rfl, hg.trans (hst.trans ?_)⟩
            rw [hq]
        · rintro ρ ⟨x3, x4, x5, rfl, hg⟩
          rw [List.length_map, List.drop_length] at hg
          exact ring hg x3 x4 x5
  | _ =>
    walk_at "d"
    exact k
end
end Bk
end
section
set_option Elab.async false
set_option linter.all false
set_option maxRecDepth 100000
set_option maxHeartbeats 4000000
/-! Bk, part O: the lines of forms, and what they tell again, in plain Lean. -/
namespace Bk
open PySem PySem.Spec PyProof.Rows L2 Tg Dw En
/-! ### join and split -/
theorem map_S (ws : List Str) : (ws.map cs).map SX.S = ws := by
  rw [List.map_map]
  have e : (SX.S ∘ cs) = id := funext fun z => SX.S_tl z
  rw [e, List.map_id]
theorem split_join1 {c : Nat} (hc : c < 256) {ps : List (List Nat)} (hne : ps ≠ []) (h : ∀ p ∈ ps, c ∉ p) : Txt.split (Txt.join (SX.S [c]) (ps.map SX.S)) (SX.S [c]) = ps.map SX.S := by
  rw [SX.join_S, SX.split_S (by simp) (by simp [hc]), SX.spl_join hne h]
theorem split_join {c : Nat} (hc : c < 256) {ws : List Str} (hne : ws ≠ []) (h : ∀ w ∈ ws, c ∉ cs w) : Txt.split (Txt.join ⟨#[c]⟩ ws) ⟨#[c]⟩ = ws := by
  have e := split_join1 hc (ps := ws.map cs) (by simpa using hne) (fun p hp => by obtain ⟨w, hw, rfl⟩ := List.mem_map.mp hp; exact h w hw)
  rw [map_S] at e
  exact e
theorem blank_is : Str.ofString " " = ⟨#[32]⟩ := by decide +kernel
theorem feed_is : Str.ofString "\n" = ⟨#[10]⟩ := by decide +kernel
theorem cs_app (a b : Str) : cs (a ++ b) = cs a ++ cs b := TL.tl_append a b
theorem join_cons2 (s a b : Str) (r : List Str) : Txt.join s (a :: b :: r) = a ++ s ++ Txt.join s (b :: r) := by
  unfold Txt.join
  rw [StrLaws.glued_eq_join, StrLaws.glued_eq_join]
  rfl
theorem join_one (s a : Str) : Txt.join s [a] = a := by
  unfold Txt.join
  rw [StrLaws.glued_eq_join]
  rfl
theorem cs_join2 (s a b : Str) (r : List Str) : cs (Txt.join s (a :: b :: r)) = cs a ++ (cs s ++ cs (Txt.join s (b :: r))) := by
  rw [join_cons2, cs_app, cs_app, List.append_assoc]
theorem mem_join {s : Str} {c : Nat} : ∀ {ws : List Str}, c ∈ cs (Txt.join s ws) → c ∈ cs s ∨ ∃ w ∈ ws, c ∈ cs w
  | [], h => by
    have e : Txt.join s [] = Str.empty := by unfold Txt.join; rw [StrLaws.glued_eq_join]; rfl
    rw [e] at h
    exact absurd h (by simp [cs, Str.empty])
  | [a], h => by
    rw [join_one] at h
    exact .inr ⟨a, List.mem_cons_self, h⟩
  | a :: b :: r, h => by
    rw [cs_join2, List.mem_append, List.mem_append] at h
    rcases h with h | h | h
    · exact .inr ⟨a, List.mem_cons_self, h⟩
    · exact .inl h
    · rcases mem_join h with h | ⟨w, hw, h⟩
      · exact .inl h
      · exact .inr ⟨w, List.mem_cons_of_mem _ hw, h⟩
/-! ### words -/
def wd (w : Str) : Bool := decide (1 ≤ w.length) && decide (w.length ≤ 8) && (cs w).all (fun c => decide (c ≠ 32) && decide (c ≠ 10) && decide (c < 128))
theorem wd_len {w : Str} (h : wd w = true) : w.length ≤ 8 := by
  unfold wd at h
  rw [Bool.and_eq_true, Bool.and_eq_true, decide_eq_true_eq, decide_eq_true_eq] at h
  exact h.1.2
theorem wd_no {w : Str} (h : wd w = true) : 32 ∉ cs w ∧ 10 ∉ cs w ∧ w ≠ Str.ofString "" ∧ PyData.strOk w = true := by
  unfold wd at h
  rw [Bool.and_eq_true, Bool.and_eq_true, List.all_eq_true, decide_eq_true_eq, decide_eq_true_eq] at h
  have h := And.intro h.1.1 h.2
  refine ⟨fun q => ?_, fun q => ?_, fun q => ?_, ?_⟩
  · have := h.2 _ q; simp at this
  · have := h.2 _ q; simp at this
  · rw [q] at h; exact absurd h.1 (by decide)
  · unfold PyData.strOk
    rw [← Array.all_toList, List.all_eq_true]
    intro x hx
    have := h.2 x hx
    simp only [Bool.and_eq_true, decide_eq_true_eq] at this
    exact decide_eq_true (by omega)
theorem nm_wd {x : Str} (h : isNmS x = true) : wd x = true := by
  unfold isNmS at h
  unfold wd
  simp only [Bool.and_eq_true, List.all_eq_true, decide_eq_true_eq] at h ⊢
  refine ⟨⟨h.1.1, h.1.2⟩, fun c hc => ?_⟩
  have := h.2 c hc
  unfold low at this
  rw [Bool.and_eq_true, decide_eq_true_eq, decide_eq_true_eq] at this
  omega
def joinS (ws : List Str) : Str := Txt.join (Str.ofString " ") ws
theorem words_join {ws : List Str} (hne : ws ≠ []) (h : ∀ w ∈ ws, wd w = true) : wordsIn (joinS ws) = some ws := by
  have e : Txt.split (joinS ws) (Str.ofString " ") = ws := by
    unfold joinS
    rw [blank_is]
    exact split_join (by decide) hne fun w hw => (wd_no (h w hw)).1
  unfold wordsIn
  rw [e, if_neg]
  intro q
  exact (wd_no (h _ q)).2.2.1 rfl
theorem join_no10 {ws : List Str} (h : ∀ w ∈ ws, 10 ∉ cs w) : 10 ∉ cs (joinS ws) := by
  intro q
  unfold joinS at q
  rcases mem_join q with q | ⟨w, hw, q⟩
  · rw [blank_is] at q
    exact absurd q (by decide)
  · exact h w hw q
theorem join_strOk {ws : List Str} (h : ∀ w ∈ ws, PyData.strOk w = true) : PyData.strOk (joinS ws) = true := by
  unfold PyData.strOk
  rw [← Array.all_toList, List.all_eq_true]
  intro c hc
  unfold joinS at hc
  rcases mem_join hc with q | ⟨w, hw, q⟩
  · rw [blank_is] at q
    have : c = 32 := by simpa [cs] using q
    exact decide_eq_true (by omega)
  · have := h w hw
    unfold PyData.strOk at this
    rw [← Array.all_toList, List.all_eq_true] at this
    exact this c q
def numS (i : Int) : Str := Str.ofString (toString i)
theorem num_small {i : Int} (h0 : -1 ≤ i) (h1 : i ≤ 5) : numIn (numS i) = some i ∧ wd (numS i) = true ∧ numS i ≠ Str.ofString "*" ∧ (numS i).length ≤ 2 := by
  have : i = -1 ∨ i = 0 ∨ i = 1 ∨ i = 2 ∨ i = 3 ∨ i = 4 ∨ i = 5 := by omega
  rcases this with rfl | rfl | rfl | rfl | rfl | rfl | rfl <;> exact ⟨by decide +kernel, by decide +kernel, by decide +kernel, by decide +kernel⟩
/-! ### the lines of a kind -/
def kindLines (x : Str) : Form → List Str
  | .bare w => [joinS [w, x]]
  | .int lo hi => [joinS [Str.ofString "int", x, numS lo, numS hi]]
  | .word ws => [joinS (Str.ofString "word" :: x :: ws)]
  | .either ms => [joinS (Str.ofString "either" :: x :: ms)]
  | .list k lo hi => [joinS [Str.ofString "list", x, k, numS lo, match hi with
    | none => Str.ofString "*"
    | some h => numS h]]
  | .record op rows => joinS (Str.ofString "record" :: x :: (if op = true then [Str.ofString "open"] else [])) :: rows.map fun r => joinS (Str.ofString "" :: Str.ofString "" :: r.1 :: r.2.1 :: (if r.2.2 = true then [] else [Str.ofString "?"]))
  | .tagged f rows => joinS [Str.ofString "tagged", x, f] :: rows.map fun r => joinS [Str.ofString "", Str.ofString "", r.1, r.2]
def headWords (x : Str) : Form → List Str
  | .bare w => [w, x]
  | .int lo hi => [Str.ofString "int", x, numS lo, numS hi]
  | .word ws => Str.ofString "word" :: x :: ws
  | .either ms => Str.ofString "either" :: x :: ms
  | .list k lo hi => [Str.ofString "list", x, k, numS lo, match hi with
    | none => Str.ofString "*"
    | some h => numS h]
  | .record op rows => Str.ofString "record" :: x :: (if op = true then [Str.ofString "open"] else [])
  | .tagged f rows => [Str.ofString "tagged", x, f]
def rowWords : Form → List (List Str)
  | .record op rows => rows.map fun r => r.1 :: r.2.1 :: (if r.2.2 = true then [] else [Str.ofString "?"])
  | .tagged f rows => rows.map fun r => [r.1, r.2]
  | _ => []
def deepS (ws : List Str) : Str := joinS (Str.ofString "" :: Str.ofString "" :: ws)
theorem kind_words (x : Str) (f : Form) : kindLines x f = joinS (headWords x f) :: (rowWords f).map deepS := by
  cases f with
  | record op rows => simp only [kindLines, headWords, rowWords, List.map_map]; rfl
  | tagged f rows => simp only [kindLines, headWords, rowWords, List.map_map]; rfl
  | _ => rfl
/-! ### forms that are drawn -/
def gForm : Form → Prop
  | .bare w => w = Str.ofString "none" ∨ w = Str.ofString "bool" ∨ w = Str.ofString "text"
  | .int lo hi => -1 ≤ lo ∧ lo ≤ hi ∧ hi ≤ 5
  | .word ws => ws ≠ [] ∧ ws.length ≤ 6 ∧ areNames ws = true
  | .list k lo hi => isNmS k = true ∧ 0 ≤ lo ∧ lo ≤ 4 ∧ (match hi with
    | some h => lo ≤ h ∧ h ≤ 4
    | none => True)
  | .record _ rows => areNames (rows.map (·.1)) = true ∧ rows.length ≤ 6 ∧ ∀ r ∈ rows, isNmS r.2.1 = true
  | .either ms => 2 ≤ ms.length ∧ ms.length ≤ 20 ∧ areNames ms = true
  | .tagged f rows => isNmS f = true ∧ rows ≠ [] ∧ rows.length ≤ 6 ∧ areNames (rows.map (·.1)) = true ∧ ∀ r ∈ rows, isNmS r.2 = true
theorem are_mem {ws : List Str} (h : areNames ws = true) {w : Str} (hw : w ∈ ws) : isNmS w = true := by
  unfold areNames at h
  rw [Bool.and_eq_true, List.all_eq_true] at h
  exact h.1 w hw
theorem are_nd {ws : List Str} (h : areNames ws = true) : ws.Nodup := by
  unfold areNames at h
  rw [Bool.and_eq_true, decide_eq_true_eq] at h
  exact h.2
theorem head_wd {x : Str} {f : Form} (hx : isNmS x = true) (g : gForm f) : ∀ w ∈ headWords x f, wd w = true := by
  have hx := nm_wd hx
  cases f with
  | bare w =>
    intro z hz
    simp only [headWords, List.mem_cons, List.not_mem_nil, or_false] at hz
    rcases hz with rfl | rfl
    · rcases g with e | e | e <;> (subst e; decide +kernel)
    · exact hx
  | int lo hi =>
    intro z hz
    simp only [headWords, List.mem_cons, List.not_mem_nil, or_false] at hz
    obtain ⟨g1, g2, g3⟩ := g
    rcases hz with rfl | rfl | rfl | rfl
    · decide +kernel
    · exact hx
    · exact (num_small g1 (by omega)).2.1
    · exact (num_small (by omega) g3).2.1
  | word ws =>
    intro z hz
    simp only [headWords, List.mem_cons] at hz
    rcases hz with rfl | rfl | hz
    · decide +kernel
    · exact hx
    · exact nm_wd (are_mem g.2.2 hz)
  | either ws =>
    intro z hz
    simp only [headWords, List.mem_cons] at hz
    rcases hz with rfl | rfl | hz
    · decide +kernel
    · exact hx
    · exact nm_wd (are_mem g.2.2 hz)
  | list k lo hi =>
    intro z hz
    simp only [headWords, List.mem_cons, List.not_mem_nil, or_false] at hz
    obtain ⟨g1, g2, g3, g4⟩ := g
    rcases hz with rfl | rfl | rfl | rfl | rfl
    · decide +kernel
    · exact hx
    · exact nm_wd g1
    · exact (num_small (by omega) (by omega)).2.1
    · cases hi with
      | none => decide +kernel
      | some h => exact (num_small (by have := g4.1; omega) (by have := g4.2; omega)).2.1
  | record op rows =>
    intro z hz
    simp only [headWords, List.mem_cons] at hz
    rcases hz with rfl | rfl | hz
    · decide +kernel
    · exact hx
    · cases op
      · simp at hz
      · simp only [if_true, List.mem_singleton] at hz
        subst hz
        decide +kernel
  | tagged fd rows =>
    intro z hz
    simp only [headWords, List.mem_cons, List.not_mem_nil, or_false] at hz
    rcases hz with rfl | rfl | rfl
    · decide +kernel
    · exact hx
    · exact nm_wd g.1
def rowP (ws : List Str) : Prop := ∃ a b r, ws = a :: b :: r ∧ isNmS a = true ∧ isNmS b = true ∧ (r = [] ∨ r = maybe)
theorem row_ok {f : Form} (g : gForm f) : (∀ ws ∈ rowWords f, rowP ws) ∧ ((rowWords f).map word0).Nodup ∧ (rowWords f).length ≤ 6 := by
  cases f with
  | record op rows =>
    obtain ⟨g1, g2, g3⟩ := g
    refine ⟨fun ws hw => ?_, ?_, by simpa only [rowWords, List.length_map] using g2⟩
    · simp only [rowWords, List.mem_map] at hw
      obtain ⟨r, hr, rfl⟩ := hw
      refine ⟨_, _, _, rfl, are_mem g1 (List.mem_map.mpr ⟨r, hr, rfl⟩), g3 r hr, ?_⟩
      cases r.2.2
      · exact .inr rfl
      · exact .inl rfl
    · simp only [rowWords, List.map_map]
      exact are_nd g1
  | tagged fd rows =>
    obtain ⟨g0, g00, g2, g1, g3⟩ := g
    refine ⟨fun ws hw => ?_, ?_, by simpa only [rowWords, List.length_map] using g2⟩
    · simp only [rowWords, List.mem_map] at hw
      obtain ⟨r, hr, rfl⟩ := hw
      exact ⟨_, _, _, rfl, are_mem g1 (List.mem_map.mpr ⟨r, hr, rfl⟩), g3 r hr, .inl rfl⟩
    · simp only [rowWords, List.map_map]
      exact are_nd g1
  | _ => exact ⟨fun ws hw => absurd hw (by simp [rowWords]), by simp [rowWords], by simp [rowWords]⟩
theorem rowP_wd {ws : List Str} (h : rowP ws) : ws ≠ [] ∧ ∀ w ∈ ws, wd w = true := by
  obtain ⟨a, b, r, rfl, ha, hb, hr⟩ := h
  refine ⟨by simp, fun w hw => ?_⟩
  rcases List.mem_cons.mp hw with rfl | hw
  · exact nm_wd ha
  · rcases List.mem_cons.mp hw with rfl | hw
    · exact nm_wd hb
    · rcases hr with rfl | rfl
      · simp at hw
      · rw [List.mem_singleton.mp hw]
        decide +kernel
/-! ### one kind is told again -/
theorem empty_is : Str.ofString "" = ⟨#[]⟩ := by decide +kernel
theorem cs_deep {ws : List Str} (h : ws ≠ []) : cs (deepS ws) = 32 :: 32 :: cs (joinS ws) := by
  unfold deepS joinS
  cases ws with
  | nil => exact absurd rfl h
  | cons a r =>
    rw [cs_join2, cs_join2, empty_is, blank_is]
    rfl
theorem drop_deep {ws : List Str} (h : ws ≠ []) : dropS (deepS ws) = joinS ws := by
  unfold dropS
  rw [show (some (2 : Int)) = some ((2 : Nat) : Int) from rfl, cut_from, cs_deep h]
  exact ofL_cs _
theorem deep_starts {ws : List Str} (h : ws ≠ []) : Txt.startswith (deepS ws) (Str.ofString "  ") = true := by
  rw [starts_is, cs_deep h]
  exact decide_eq_true (by
    rw [show (Str.ofString "  ").length = 2 from rfl, show cs (Str.ofString "  ") = [32, 32] from by decide +kernel]
    rfl)
theorem tag_word {x : Str} {f : Form} : ∃ r, headWords x f = tagF f :: x :: r := by
  cases f <;> exact ⟨_, rfl⟩
theorem tag_one {f : Form} (g : gForm f) : tagF f ∈ [Str.ofString "none", Str.ofString "bool", Str.ofString "text", Str.ofString "int", Str.ofString "word", Str.ofString "list", Str.ofString "record", Str.ofString "either", Str.ofString "tagged"] := by
  cases f with
  | bare w => rcases g with e | e | e <;> (simp only [tagF, e]; decide +kernel)
  | _ => simp only [tagF]; decide +kernel
theorem head_starts {x : Str} {f : Form} (g : gForm f) : Txt.startswith (joinS (headWords x f)) (Str.ofString "  ") = false := by
  obtain ⟨r, e⟩ := tag_word (x := x) (f := f)
  have t : ∃ c l, cs (tagF f) = c :: l ∧ c ≠ 32 := by
    have h := tag_one g
    have al : ∀ z ∈ [Str.ofString "none", Str.ofString "bool", Str.ofString "text", Str.ofString "int", Str.ofString "word", Str.ofString "list", Str.ofString "record", Str.ofString "either", Str.ofString "tagged"], (match cs z with
      | c :: _ => decide (c ≠ 32)
      | [] => false) = true := by decide +kernel
    have := al _ h
    cases q : cs (tagF f) with
    | nil => rw [q] at this; cases this
    | cons c l => rw [q] at this; exact ⟨c, l, rfl, of_decide_eq_true this⟩
  obtain ⟨c, l, ec, nc⟩ := t
  rw [starts_is, e]
  apply decide_eq_false
  unfold joinS
  rw [cs_join2, ec, show (Str.ofString "  ").length = 2 from rfl, show cs (Str.ofString "  ") = [32, 32] from by decide +kernel]
  intro q
  simp only [List.cons_append, List.take_succ_cons] at q
  injection q with q1 _
  exact nc q1
theorem deep_go {a b : Nat} : ∀ (rs : List (List Str)) (m : Int) (found : List (List Str)), (∀ ws ∈ rs, rowP ws ∧ a ≤ ws.length ∧ ws.length ≤ b) → ((found ++ rs).map word0).Nodup → deepGo a b m (rs.map deepS) found = .ok (found ++ rs)
  | [], m, found, _, _ => by
    rw [List.map_nil, deepGo, List.append_nil]
  | ws :: rs, m, found, h, nd => by
    obtain ⟨hp, ha, hb⟩ := h ws List.mem_cons_self
    obtain ⟨h1, h2⟩ := rowP_wd hp
    rw [List.map_cons, deepGo, drop_deep h1, words_join h1 h2]
    dsimp only
    have hr : rowOk a b (found.map fun w => w.headD (Str.ofString "")) ws = true := by
      obtain ⟨x, y, r, rfl, nx, ny, hr⟩ := hp
      unfold rowOk
      have n1 : areNames [x] = true := by unfold areNames; simp [nx]
      have n2 : areNames [y] = true := by unfold areNames; simp [ny]
      have ns : (found.map fun w => w.headD (Str.ofString "")).contains x = false := by
        rw [Bool.eq_false_iff]
        intro q
        rw [List.contains_iff_mem] at q
        rw [List.map_append, List.nodup_append] at nd
        exact nd.2.2 x q x (by simp [word0]) rfl
      have hr2 : (decide (r = []) || decide (r = maybe)) = true := by
        rcases hr with rfl | rfl <;> decide +kernel
      simp only [List.take_succ_cons, List.take_zero, List.drop_succ_cons, List.drop_zero, List.headD_cons, n1, n2, ns, hr2, Bool.not_false, Bool.and_true, decide_eq_true ha, decide_eq_true hb]
    rw [if_pos hr]
    have := deep_go (a := a) (b := b) rs (m + 1) (found ++ [ws]) (fun w hw => h w (List.mem_cons_of_mem _ hw)) (by rw [List.append_assoc]; exact nd)
    rw [this, List.append_assoc]
    rfl
theorem form_again {x : Str} {f : Form} (g : gForm f) (n : Int) : formIn n (headWords x f) ((rowWords f).map deepS) = .ok f := by
  cases f with
  | record op rows =>
    obtain ⟨r1, r2, r3⟩ := row_ok g
    have hd := deep_go (a := 2) (b := 3) (rowWords (.record op rows)) (n + 1) [] (fun ws hw => by
      obtain ⟨a, b, r, rfl, ha, hb, hr⟩ := r1 ws hw
      refine ⟨⟨a, b, r, rfl, ha, hb, hr⟩, by simp, ?_⟩
      rcases hr with rfl | rfl <;> simp [maybe]) (by simpa using r2)
    unfold formIn
    rw [hd, if_pos (by
      refine ⟨rfl, ?_⟩
      cases op
      · exact .inl rfl
      · exact .inr rfl)]
    dsimp only
    congr 2
    · cases op
      · exact decide_eq_false (by simp [headWords])
      · exact decide_eq_true rfl
    · simp only [List.nil_append, rowWords, List.map_map]
      conv => rhs; rw [← List.map_id rows]
      apply List.map_congr_left
      rintro ⟨a, b, c⟩ _
      cases c <;> simp [word0, word1]
  | tagged fd rows =>
    obtain ⟨r1, r2, r3⟩ := row_ok g
    have hd := deep_go (a := 2) (b := 2) (rowWords (.tagged fd rows)) (n + 1) [] (fun ws hw => by
      refine ⟨r1 ws hw, ?_⟩
      simp only [rowWords, List.mem_map] at hw
      obtain ⟨r, hr, rfl⟩ := hw
      exact ⟨Nat.le_refl _, Nat.le_refl _⟩) (by simpa using r2)
    unfold formIn
    rw [if_neg (by
      rintro ⟨q, _⟩
      exact absurd (show Str.ofString "tagged" = Str.ofString "record" from q) (by decide +kernel)), if_pos (by
      refine ⟨rfl, rfl, g.1⟩), if_neg (by
      have := g.2.1
      simpa [rowWords] using this), hd]
    dsimp only
    congr 2
    simp only [List.nil_append, rowWords, List.map_map]
    conv => rhs; rw [← List.map_id rows]
    apply List.map_congr_left
    rintro ⟨a, b⟩ _
    rfl
  | bare w =>
    rcases g with e | e | e <;> (
      subst e
      unfold formIn
      rw [if_neg (by
        rintro ⟨q, _⟩
        revert q
        simp only [headWords, word0, List.headD_cons]
        decide +kernel), if_neg (by
        rintro ⟨q, _⟩
        revert q
        simp only [headWords, word0, List.headD_cons]
        decide +kernel)]
      rfl)
  | int lo hi =>
    obtain ⟨g1, g2, g3⟩ := g
    have n1 := (num_small g1 (by omega)).1
    have n2 := (num_small (i := hi) (by omega) g3).1
    unfold formIn
    rw [if_neg (by
      rintro ⟨q, _⟩
      exact absurd (show Str.ofString "int" = Str.ofString "record" from q) (by decide +kernel)), if_neg (by
      rintro ⟨q, _⟩
      exact absurd (show Str.ofString "int" = Str.ofString "tagged" from q) (by decide +kernel))]
    have e : flatForm (word0 (headWords x (.int lo hi))) ((headWords x (.int lo hi)).drop 2) = some (.int lo hi) := by
      show flatForm (Str.ofString "int") [numS lo, numS hi] = _
      unfold flatForm
      rw [if_neg (by decide +kernel), if_pos rfl]
      show intForm (numS lo) (numS hi) = _
      unfold intForm
      rw [n1, n2]
      dsimp only
      rw [if_pos g2]
    rw [e]
    rfl
  | word ws =>
    unfold formIn
    rw [if_neg (by
      rintro ⟨q, _⟩
      exact absurd (show Str.ofString "word" = Str.ofString "record" from q) (by decide +kernel)), if_neg (by
      rintro ⟨q, _⟩
      exact absurd (show Str.ofString "word" = Str.ofString "tagged" from q) (by decide +kernel))]
    have e : flatForm (word0 (headWords x (.word ws))) ((headWords x (.word ws)).drop 2) = some (.word ws) := by
      show flatForm (Str.ofString "word") ws = _
      unfold flatForm
      rw [if_neg (by decide +kernel), if_neg (by decide +kernel), if_neg (by decide +kernel), if_pos rfl, if_pos ⟨g.1, g.2.2⟩]
    rw [e]
    rfl
  | either ws =>
    unfold formIn
    rw [if_neg (by
      rintro ⟨q, _⟩
      exact absurd (show Str.ofString "either" = Str.ofString "record" from q) (by decide +kernel)), if_neg (by
      rintro ⟨q, _⟩
      exact absurd (show Str.ofString "either" = Str.ofString "tagged" from q) (by decide +kernel))]
    have e : flatForm (word0 (headWords x (.either ws))) ((headWords x (.either ws)).drop 2) = some (.either ws) := by
      show flatForm (Str.ofString "either") ws = _
      unfold flatForm
      rw [if_neg (by decide +kernel), if_neg (by decide +kernel), if_neg (by decide +kernel), if_neg (by decide +kernel), if_pos rfl, if_pos ⟨g.1, g.2.2⟩]
    rw [e]
    rfl
  | list k lo hi =>
    obtain ⟨g1, g2, g3, g4⟩ := g
    have n1 := (num_small (i := lo) (by omega) (by omega)).1
    unfold formIn
    rw [if_neg (by
      rintro ⟨q, _⟩
      exact absurd (show Str.ofString "list" = Str.ofString "record" from q) (by decide +kernel)), if_neg (by
      rintro ⟨q, _⟩
      exact absurd (show Str.ofString "list" = Str.ofString "tagged" from q) (by decide +kernel))]
    have e : flatForm (word0 (headWords x (.list k lo hi))) ((headWords x (.list k lo hi)).drop 2) = some (.list k lo hi) := by
      cases hi with
      | none =>
        show flatForm (Str.ofString "list") [k, numS lo, Str.ofString "*"] = _
        unfold flatForm
        rw [if_neg (by decide +kernel), if_neg (by decide +kernel), if_pos rfl]
        show listForm k (numS lo) (Str.ofString "*") = _
        unfold listForm
        rw [n1]
        dsimp only
        rw [if_pos ⟨g1, g2, g3⟩, if_pos rfl]
      | some h =>
        obtain ⟨g5, g6⟩ := g4
        have n2 := num_small (i := h) (by omega) (by omega)
        show flatForm (Str.ofString "list") [k, numS lo, numS h] = _
        unfold flatForm
        rw [if_neg (by decide +kernel), if_neg (by decide +kernel), if_pos rfl]
        show listForm k (numS lo) (numS h) = _
        unfold listForm
        rw [n1]
        dsimp only
        rw [if_pos ⟨g1, g2, g3⟩, if_neg n2.2.2.1, n2.1]
        dsimp only
        rw [if_pos ⟨g5, g6⟩]
    rw [e]
    rfl
end Bk
end
section
set_option Elab.async false
set_option linter.all false
set_option maxRecDepth 100000
set_option maxHeartbeats 4000000
/-! Bk, part P: the page of a book's forms is told again, in plain Lean. -/
namespace Bk
open PySem PySem.Spec PyProof.Rows L2 Tg Dw En
def linesOf (fs : Forms) : List Str := fs.flatMap fun r => kindLines r.1 r.2
def rowsOf : Int → Forms → Rows
  | _, [] => []
  | n, (x, f) :: r => (x, f, n) :: rowsOf (n + (kindLines x f).length) r
def pageOf (fs : Forms) : Str := Txt.join (Str.ofString "\n") (linesOf fs)
structure GoodL (fs : Forms) : Prop where
  ne : fs ≠ []
  few : fs.length ≤ 30
  nd : (fs.map (·.1)).Nodup
  nm : ∀ r ∈ fs, isNmS r.1 = true
  gf : ∀ r ∈ fs, gForm r.2
theorem lines_cons (x : Str) (f : Form) (r : Forms) : linesOf ((x, f) :: r) = kindLines x f ++ linesOf r := by
  unfold linesOf
  rw [List.flatMap_cons]
/-! ### heads -/
def headB (z : Str) : Bool := !Txt.startswith z (Str.ofString "  ")
theorem heads_app (a b : List Str) : headsAt (a ++ b) = headsAt a ++ (headsAt b).map (· + a.length) := by
  unfold headsAt
  rw [List.length_append, List.range_add, List.filter_append, List.filter_map]
  congr 1
  · apply List.filter_congr
    intro i hi
    rw [List.mem_range] at hi
    simp only [List.getD_eq_getElem?_getD]
    rw [List.getElem?_append_left hi]
  · have e : (fun i => !Txt.startswith ((a ++ b).getD i (Str.ofString "")) (Str.ofString "  ")) ∘ (fun x => a.length + x) = fun i => !Txt.startswith (b.getD i (Str.ofString "")) (Str.ofString "  ") := by
      funext i
      simp only [Function.comp, List.getD_eq_getElem?_getD]
      rw [List.getElem?_append_right (by omega)]
      congr 4
      omega
    rw [e]
    apply List.map_congr_left
    intro i _
    omega
theorem heads_none : ∀ {zs : List Str}, (∀ z ∈ zs, Txt.startswith z (Str.ofString "  ") = true) → headsAt zs = [] := by
  intro zs h
  unfold headsAt
  rw [List.filter_eq_nil_iff]
  intro i hi
  rw [List.mem_range] at hi
  rw [List.getD_eq_getElem?_getD, List.getElem?_eq_getElem hi]
  simp [h _ (List.getElem_mem hi)]
theorem heads_kind {x : Str} {f : Form} (g : gForm f) : headsAt (kindLines x f) = [0] := by
  rw [kind_words, show joinS (headWords x f) :: (rowWords f).map deepS = [joinS (headWords x f)] ++ (rowWords f).map deepS from rfl, heads_app, heads_none (zs := (rowWords f).map deepS) (fun z hz => by
    obtain ⟨ws, hw, rfl⟩ := List.mem_map.mp hz
    exact deep_starts (rowP_wd ((row_ok g).1 ws hw)).1)]
  unfold headsAt
  have e : List.range [joinS (headWords x f)].length = [0] := rfl
  rw [e]
  simp [head_starts (x := x) g]
def startsOf : Nat → Forms → List Nat
  | _, [] => []
  | n, (x, f) :: r => n :: startsOf (n + (kindLines x f).length) r
theorem starts_shift : ∀ (fs : Forms) (n k : Nat), (startsOf n fs).map (· + k) = startsOf (n + k) fs
  | [], _, _ => rfl
  | (x, f) :: r, n, k => by
    show (n + k) :: (startsOf (n + (kindLines x f).length) r).map (· + k) = (n + k) :: startsOf (n + k + (kindLines x f).length) r
    rw [starts_shift r, show n + (kindLines x f).length + k = n + k + (kindLines x f).length by omega]
theorem heads_lines : ∀ {fs : Forms}, (∀ r ∈ fs, gForm r.2) → headsAt (linesOf fs) = startsOf 0 fs
  | [], _ => rfl
  | (x, f) :: r, h => by
    rw [lines_cons, heads_app, heads_kind (h _ List.mem_cons_self), heads_lines (fs := r) fun q hq => h q (List.mem_cons_of_mem _ hq), starts_shift]
    rfl
def pairsOf : Nat → Forms → List (Nat × Nat)
  | _, [] => []
  | n, (x, f) :: r => (n, n + (kindLines x f).length) :: pairsOf (n + (kindLines x f).length) r
theorem zip_pairs : ∀ (fs : Forms) (n : Nat), (startsOf n fs).zip ((startsOf n fs).tail ++ [n + (linesOf fs).length]) = pairsOf n fs
  | [], _ => rfl
  | [(x, f)], n => by
    show [(n, n + (linesOf [(x, f)]).length)] = [(n, n + (kindLines x f).length)]
    rw [lines_cons]
    simp [linesOf]
  | (x, f) :: (y, g) :: r, n => by
    have ih := zip_pairs ((y, g) :: r) (n + (kindLines x f).length)
    have e : n + (linesOf ((x, f) :: (y, g) :: r)).length = n + (kindLines x f).length + (linesOf ((y, g) :: r)).length := by
      rw [lines_cons, List.length_append]
      omega
    rw [e]
    show (n, n + (kindLines x f).length) :: ((startsOf (n + (kindLines x f).length) ((y, g) :: r)).zip ((startsOf (n + (kindLines x f).length) ((y, g) :: r)).tail ++ [n + (kindLines x f).length + (linesOf ((y, g) :: r)).length])) = _
    rw [ih]
    rfl
/-! ### rows are told -/
theorem told_go : ∀ (fs : Forms) (pre : List Str) (found : Rows), (∀ r ∈ fs, isNmS r.1 = true ∧ gForm r.2) → (found.map (·.1) ++ fs.map (·.1)).Nodup → toldGo (pre ++ linesOf fs) (pairsOf pre.length fs) found = .ok (found ++ rowsOf ((pre.length : Nat) + 1 : Int) fs)
  | [], pre, found, _, _ => by
    rw [pairsOf, toldGo, rowsOf, List.append_nil]
  | (x, f) :: r, pre, found, h, nd => by
    obtain ⟨hx, g⟩ := h _ List.mem_cons_self
    rw [pairsOf, toldGo]
    have hk := kind_words x f
    have e1 : (pre ++ linesOf ((x, f) :: r)).getD pre.length (Str.ofString "") = joinS (headWords x f) := by
      rw [lines_cons, hk, List.getD_eq_getElem?_getD, List.getElem?_append_right (Nat.le_refl _), Nat.sub_self]
      rfl
    have e2 : ((pre ++ linesOf ((x, f) :: r)).drop (pre.length + 1)).take (pre.length + (kindLines x f).length - (pre.length + 1)) = (rowWords f).map deepS := by
      rw [lines_cons, hk, List.drop_append, List.drop_of_length_le (by omega), List.nil_append, show pre.length + 1 - pre.length = 1 by omega, List.cons_append, List.drop_succ_cons, List.drop_zero, List.length_cons, show pre.length + (((rowWords f).map deepS).length + 1) - (pre.length + 1) = ((rowWords f).map deepS).length by omega]
      exact List.take_left
    have hw := head_wd hx g
    obtain ⟨q, et⟩ := tag_word (x := x) (f := f)
    rw [e1, words_join (by rw [et]; simp) hw]
    dsimp only
    have w1 : word1 (headWords x f) = x := by rw [et]; rfl
    have nin : x ∉ found.map (·.1) := fun q => by
      rw [List.nodup_append] at nd
      exact nd.2.2 x q x (by simp) rfl
    rw [w1, if_neg (by
      rintro (q | q | q)
      · rw [et] at q; simp at q; omega
      · rw [hx] at q; cases q
      · exact nin q), e2, form_again g]
    dsimp only
    have ih := told_go r (pre ++ kindLines x f) (found ++ [(x, f, ((pre.length : Nat) : Int) + 1)]) (fun s hs => h s (List.mem_cons_of_mem _ hs)) (by
      rw [List.map_append, List.append_assoc]
      exact nd)
    rw [List.append_assoc, ← lines_cons, List.length_append] at ih
    rw [ih, List.append_assoc, rowsOf]
    congr 3
    rw [List.singleton_append]
    congr 2
    omega
theorem kinds_page {fs : Forms} (g : GoodL fs) : kindsTold (linesOf fs) = .ok (rowsOf 1 fs) := by
  unfold kindsTold
  rw [heads_lines g.gf]
  have h := told_go fs [] [] (fun r hr => ⟨g.nm r hr, g.gf r hr⟩) (by simpa using g.nd)
  have z := zip_pairs fs 0
  rw [Nat.zero_add] at z
  rw [z, if_neg]
  · exact h
  · intro q
    cases fs with
    | nil => exact g.ne rfl
    | cons r rs => exact q rfl
theorem forms_rows : ∀ (fs : Forms) (n : Int), formsOf (rowsOf n fs) = fs
  | [], _ => rfl
  | (x, f) :: r, n => by
    rw [rowsOf]
    show (x, f) :: formsOf (rowsOf _ r) = _
    rw [forms_rows r]
/-! ### the page -/
theorem join_len {ws : List Str} {c : Nat} (h : ∀ w ∈ ws, w.length ≤ c) (s : Str) : (Txt.join s ws).length ≤ ws.length * (c + s.length) := by
  unfold Txt.join
  rw [StrLaws.glued_eq_join]
  refine Nat.le_trans (StrLaws.join_length_le s ws) ?_
  have : ∀ ws : List Str, (∀ w ∈ ws, w.length ≤ c) → (ws.map (·.length)).sum ≤ ws.length * c := by
    intro ws
    induction ws with
    | nil => intro _; simp
    | cons a r ih =>
      intro h
      rw [List.map_cons, List.sum_cons, List.length_cons, Nat.succ_mul]
      have := ih fun w hw => h w (List.mem_cons_of_mem _ hw)
      have := h a List.mem_cons_self
      omega
  have := this ws h
  rw [Nat.mul_add]
  omega
theorem head_few {x : Str} {f : Form} (g : gForm f) : (headWords x f).length ≤ 22 := by
  cases f with
  | word ws => have := g.2.1; simp only [headWords, List.length_cons]; omega
  | either ws => have := g.2.1; simp only [headWords, List.length_cons]; omega
  | record op rows => cases op <;> simp [headWords]
  | _ => simp [headWords]
theorem line_ok {x : Str} {f : Form} (hx : isNmS x = true) (g : gForm f) : ∀ z ∈ kindLines x f, 10 ∉ cs z ∧ z.length ≤ 198 ∧ PyData.strOk z = true := by
  intro z hz
  rw [kind_words] at hz
  have l1 : (Str.ofString " ").length = 1 := rfl
  rcases List.mem_cons.mp hz with rfl | hz
  · have hw := head_wd hx g
    refine ⟨join_no10 fun w h => (wd_no (hw w h)).2.1, ?_, join_strOk fun w h => (wd_no (hw w h)).2.2.2⟩
    have := join_len (c := 8) (fun w h => wd_len (hw w h)) (Str.ofString " ")
    rw [l1] at this
    have h22 := head_few (x := x) g
    have : (headWords x f).length * 9 ≤ 22 * 9 := Nat.mul_le_mul_right 9 h22
    unfold joinS
    omega
  · obtain ⟨ws, hws, rfl⟩ := List.mem_map.mp hz
    have hp := (row_ok g).1 ws hws
    have hw := (rowP_wd hp).2
    have hw2 : ∀ w ∈ Str.ofString "" :: Str.ofString "" :: ws, 10 ∉ cs w ∧ w.length ≤ 8 ∧ PyData.strOk w = true := by
      intro w h
      rcases List.mem_cons.mp h with rfl | h
      · decide +kernel
      · rcases List.mem_cons.mp h with rfl | h
        · decide +kernel
        · exact ⟨(wd_no (hw w h)).2.1, wd_len (hw w h), (wd_no (hw w h)).2.2.2⟩
    refine ⟨join_no10 fun w h => (hw2 w h).1, ?_, join_strOk fun w h => (hw2 w h).2.2⟩
    have := join_len (c := 8) (fun w h => (hw2 w h).2.1) (Str.ofString " ")
    obtain ⟨a, b, r, rfl, _, _, hr⟩ := hp
    unfold deepS joinS
    rcases hr with rfl | rfl
    · simp only [List.length_cons, List.length_nil] at this
      omega
    · unfold maybe at this ⊢
      simp only [List.length_cons, List.length_nil] at this
      omega
theorem kind_few {x : Str} {f : Form} (g : gForm f) : (kindLines x f).length ≤ 7 ∧ 1 ≤ (kindLines x f).length := by
  rw [kind_words, List.length_cons, List.length_map]
  have := (row_ok g).2.2
  omega
theorem lines_few : ∀ {fs : Forms}, (∀ r ∈ fs, gForm r.2) → (linesOf fs).length ≤ fs.length * 7 ∧ fs.length ≤ (linesOf fs).length
  | [], _ => by simp [linesOf]
  | (x, f) :: r, h => by
    rw [lines_cons, List.length_append, List.length_cons, Nat.succ_mul]
    have := lines_few (fs := r) fun q hq => h q (List.mem_cons_of_mem _ hq)
    have : (kindLines x f).length ≤ 7 ∧ 1 ≤ (kindLines x f).length := kind_few (x := x) (h _ List.mem_cons_self)
    omega
theorem lines_ok {fs : Forms} (g : GoodL fs) : ∀ z ∈ linesOf fs, 10 ∉ cs z ∧ z.length ≤ 198 ∧ PyData.strOk z = true := by
  intro z hz
  unfold linesOf at hz
  obtain ⟨r, hr, hz⟩ := List.mem_flatMap.mp hz
  exact line_ok (g.nm r hr) (g.gf r hr) z hz
theorem split_page {fs : Forms} (g : GoodL fs) : Txt.split (pageOf fs) (Str.ofString "\n") = linesOf fs := by
  unfold pageOf
  rw [feed_is]
  refine split_join (by decide) ?_ fun z hz => (lines_ok g z hz).1
  intro q
  have := (lines_few g.gf).2
  rw [q] at this
  exact g.ne (List.length_eq_zero_iff.mp (by simpa using this))
theorem starts_len : ∀ (fs : Forms) (n : Nat), (startsOf n fs).length = fs.length
  | [], _ => rfl
  | (x, f) :: r, n => by rw [startsOf, List.length_cons, starts_len r, List.length_cons]
theorem page_ok {fs : Forms} (g : GoodL fs) : TextOk (pageOf fs) := by
  have hf := lines_few g.gf
  have few := g.few
  have h7 : fs.length * 7 ≤ 30 * 7 := Nat.mul_le_mul_right 7 few
  unfold TextOk
  rw [split_page g]
  refine ⟨?_, ⟨by omega, fun z hz => ⟨by have := (lines_ok g z hz).2.1; omega, (lines_ok g z hz).2.2⟩⟩, by rw [heads_lines g.gf, starts_len]; exact few⟩
  have := join_len (c := 198) (fun z hz => (lines_ok g z hz).2.1) (Str.ofString "\n")
  have l1 : (Str.ofString "\n").length = 1 := rfl
  rw [l1] at this
  have : (linesOf fs).length * 199 ≤ 210 * 199 := Nat.mul_le_mul_right 199 (by omega)
  unfold pageOf
  omega
theorem told_page {fs : Forms} (g : GoodL fs) : told (pageOf fs) = match namedGo fs (rowsOf 1 fs) with
    | some m => .unnamed m
    | none => match ringGo fs (rowsOf 1 fs) with
      | some m => .ring m
      | none => .ok (rowsOf 1 fs) := by
  unfold told
  rw [split_page g, kinds_page g]
  dsimp only
  rw [forms_rows] <;> rfl
end Bk
end
section
set_option Elab.async false
set_option linter.all false
set_option maxRecDepth 100000
set_option maxHeartbeats 4000000
/-! Bk, part Q: what is reached by members, in plain Lean. -/
namespace Bk
open PySem PySem.Spec PyProof.Rows L2 Tg Dw En
section
variable {fs : Forms} {ms : List Str}
theorem rch_up {k : Nat} {y : Str} (h : y ∈ rch fs k ms) : y ∈ rch fs (k + 1) ms := List.mem_append_left _ h
theorem rch_up2 {k : Nat} {y : Str} (h : y ∈ rch fs k ms) : ∀ j, y ∈ rch fs (k + j) ms
  | 0 => h
  | j + 1 => rch_up (rch_up2 h j)
theorem rch_step {k : Nat} {u y : Str} (h : u ∈ rch fs k ms) (hy : y ∈ membersBy fs u) : y ∈ rch fs (k + 1) ms := List.mem_append_right _ (List.mem_flatMap.mpr ⟨u, h, hy⟩)
theorem rch_stop {k : Nat} (st : ∀ y, y ∈ rch fs (k + 1) ms → y ∈ rch fs k ms) : ∀ (j : Nat) (y : Str), y ∈ rch fs (k + j) ms → y ∈ rch fs k ms
  | 0, y, h => h
  | j + 1, y, h => by
    have h : y ∈ rch fs (k + j) ms ++ (rch fs (k + j) ms).flatMap (membersBy fs) := h
    rcases List.mem_append.mp h with h | h
    · exact rch_stop st j y h
    · obtain ⟨u, hu, hy⟩ := List.mem_flatMap.mp h
      exact st y (rch_step (rch_stop st j u hu) hy)
theorem rch_in (cl : Closed fs) (hm : ∀ y ∈ ms, hasF fs y = true) : ∀ (k : Nat) (y : Str), y ∈ rch fs k ms → hasF fs y = true
  | 0, y, h => hm y h
  | k + 1, y, h => by
    have h : y ∈ rch fs k ms ++ (rch fs k ms).flatMap (membersBy fs) := h
    rcases List.mem_append.mp h with h | h
    · exact rch_in cl hm k y h
    · obtain ⟨u, hu, hy⟩ := List.mem_flatMap.mp h
      exact cl.mem u y hy
theorem ded_few (cl : Closed fs) (hm : ∀ y ∈ ms, hasF fs y = true) (k : Nat) : (Ts.dedT (rch fs k ms)).length ≤ fs.length := by
  refine Nat.le_trans (nd_len (m := fs.map (·.1)) (Ts.nodup_dedT _) fun y hy => ?_) (by rw [List.length_map]; exact Nat.le_refl _)
  have := rch_in cl hm k y (Ts.mem_dedT.mp hy)
  unfold hasF at this
  exact of_decide_eq_true this
theorem rch_fix (cl : Closed fs) (hm : ∀ y ∈ ms, hasF fs y = true) : ∀ y, y ∈ rch fs (fs.length + 1) ms → y ∈ rch fs fs.length ms := by
  have key : ∃ k, k ≤ fs.length ∧ ∀ y, y ∈ rch fs (k + 1) ms → y ∈ rch fs k ms := by
    apply Classical.byContradiction
    intro q
    have un : ∀ k, k ≤ fs.length → ∃ y, y ∈ rch fs (k + 1) ms ∧ y ∉ rch fs k ms := by
      intro k hk
      apply Classical.byContradiction
      intro z
      refine q ⟨k, hk, fun y hy => ?_⟩
      apply Classical.byContradiction
      intro n
      exact z ⟨y, hy, n⟩
    have up : ∀ k, k ≤ fs.length + 1 → k ≤ (Ts.dedT (rch fs k ms)).length := by
      intro k
      induction k with
      | zero => intro _; exact Nat.zero_le _
      | succ k ih =>
        intro hk
        have h1 := ih (by omega)
        obtain ⟨y, y1, y2⟩ := un k (by omega)
        have h2 := nd_len (l := y :: Ts.dedT (rch fs k ms)) (m := Ts.dedT (rch fs (k + 1) ms)) (List.nodup_cons.mpr ⟨fun z => y2 (Ts.mem_dedT.mp z), Ts.nodup_dedT _⟩) (fun z hz => by
          rcases List.mem_cons.mp hz with rfl | hz
          · exact Ts.mem_dedT.mpr y1
          · exact Ts.mem_dedT.mpr (rch_up (Ts.mem_dedT.mp hz)))
        rw [List.length_cons] at h2
        omega
    have := up (fs.length + 1) (Nat.le_refl _)
    have := ded_few cl hm (fs.length + 1)
    omega
  obtain ⟨k, hk, st⟩ := key
  intro y hy
  have h := rch_stop st (fs.length + 1 - k) y (by rw [show k + (fs.length + 1 - k) = fs.length + 1 by omega]; exact hy)
  have := rch_up2 h (fs.length - k)
  rw [show k + (fs.length - k) = fs.length by omega] at this
  exact this
theorem rch_least {S : Str → Prop} (h0 : ∀ y ∈ ms, S y) (hs : ∀ u y, S u → y ∈ membersBy fs u → S y) : ∀ (k : Nat) (y : Str), y ∈ rch fs k ms → S y
  | 0, y, h => h0 y h
  | k + 1, y, h => by
    have h : y ∈ rch fs k ms ++ (rch fs k ms).flatMap (membersBy fs) := h
    rcases List.mem_append.mp h with h | h
    · exact rch_least h0 hs k y h
    · obtain ⟨u, hu, hy⟩ := List.mem_flatMap.mp h
      exact hs u y (rch_least h0 hs k u hu) hy
end
/-- what an either leads to -/
def Led (fs : Forms) (x y : Str) : Prop := y ∈ rch fs fs.length (membersBy fs x)
theorem led_first {fs : Forms} {x y : Str} (h : y ∈ membersBy fs x) : Led fs x y := by
  have := rch_up2 (fs := fs) (ms := membersBy fs x) (k := 0) h fs.length
  rw [Nat.zero_add] at this
  exact this
theorem led_next {fs : Forms} (cl : Closed fs) {x u y : Str} (hu : Led fs x u) (h : y ∈ membersBy fs u) : Led fs x y := rch_fix cl (fun z hz => cl.mem x z hz) y (rch_step hu h)
end Bk
end
section
--@@ genb
set_option Elab.async false
set_option linter.all false
set_option maxRecDepth 100000
set_option maxHeartbeats 4000000
set_option pp.maxSteps 3000
namespace Dw
open En PySem PySem.Spec PyProof.Rows L2 Tg LamX
section
variable {H : Hp} {p C dx : Addr} {fs : List (Str × V)} {o : HO}
mutual
/-- data do not hang on instances -/
theorem Rp.offI (hp : H p = some (.ins C dx fs)) : ∀ (d : PyData) (v : V), Rp H d v → Rp (upd H p o) d v
  | .none, v, h => by simpa only [Rp] using h
  | .bool b, v, h => by simpa only [Rp] using h
  | .int i, v, h => by simpa only [Rp] using h
  | .str x, v, h => by simpa only [Rp] using h
  | .list ds, v, h => by
    simp only [Rp] at h ⊢
    obtain ⟨a, o', xs, e, ha, r⟩ := h
    exact ⟨a, o', xs, e, by rw [upd_ne (ne_of ha hp (fun z => nomatch z))]; exact ha, RpL.offI hp ds xs r⟩
  | .tuple ds, v, h => by
    simp only [Rp] at h ⊢
    obtain ⟨a, xs, e, ha, r⟩ := h
    exact ⟨a, xs, e, by rw [upd_ne (ne_of ha hp (fun z => nomatch z))]; exact ha, RpL.offI hp ds xs r⟩
  | .dict kds, v, h => by
    simp only [Rp] at h ⊢
    rcases h with ⟨a, o', kvs, e, ha, r⟩ | ⟨e0, a, o', e, ha, q⟩
    · exact .inl ⟨a, o', kvs, e, by rw [upd_ne (ne_of ha hp (fun z => nomatch z))]; exact ha, RpD.offI hp kds kvs r⟩
    · exact .inr ⟨e0, a, o', e, by rw [upd_ne (ne_of ha hp (fun z => nomatch z))]; exact ha, q⟩
theorem RpL.offI (hp : H p = some (.ins C dx fs)) : ∀ (ds : List PyData) (xs : List V), RpL H ds xs → RpL (upd H p o) ds xs
  | [], xs, h => by simpa only [RpL] using h
  | d :: ds, xs, h => by
    simp only [RpL] at h ⊢
    obtain ⟨x, r, e, h1, h2⟩ := h
    exact ⟨x, r, e, Rp.offI hp d x h1, RpL.offI hp ds r h2⟩
theorem RpD.offI (hp : H p = some (.ins C dx fs)) : ∀ (kds : List (PyData × PyData)) (kvs : List (Key × V)), RpD H kds kvs → RpD (upd H p o) kds kvs
  | [], xs, h => by simpa only [RpD] using h
  | (ky, d) :: ds, xs, h => by
    simp only [RpD] at h ⊢
    obtain ⟨kk, v, r, e, h0, h1, h2⟩ := h
    exact ⟨kk, v, r, e, h0, Rp.offI hp d v h1, RpD.offI hp ds r h2⟩
end
end
end Dw
namespace Bk
open PySem PySem.Spec PyProof.Rows L2 Tg Dw En
section
variable {P : Program} {w : World} {K : PySem.W.Frag} {mg : Str → Option Value} {base : Heap}
theorem enc_names2 (fs : Forms) : (encP fs).map (·.1) = fs.map (·.1) := by unfold encP; rw [List.map_map]; rfl
/-- a book's attributes -/
def bookO (vf vn : V) (z : Str) : List (Str × V) := [("own_forms", vf), ("own_text", .str z), ("own_names", vn)]
def spInit (T : Tx P K mg) : Sp := fun vs H Q E => ∃ (a dx : Addr) (z : Str), vs = [.ref a, .str z] ∧ H a = some (.ins T.C_Book dx []) ∧ TextOk z ∧
  (match told z with
  | .bad n => ∀ dd H', Same H H' → H' dd = some (.xd [("value", .int n)]) → E (.ref T.C_BadBook) (some dd) H'
  | .unnamed n => ∀ dd H', Same H H' → H' dd = some (.xd [("value", .int n)]) → E (.ref T.C_Unnamed) (some dd) H'
  | .ring n => ∀ dd H', Same H H' → H' dd = some (.xd [("value", .int n)]) → E (.ref T.C_Ring) (some dd) H'
  | .ok rows => ∀ (H' : Hp) (vf vn : V), (∀ b o, b ≠ a → H b = some o → H' b = some o) → H' a = some (.ins T.C_Book dx (bookO vf vn z)) → Rp H' (encD (formsOf rows)) vf → Rp H' (.tuple ((formsOf rows).map fun r => .str r.1)) vn → Q .non H')
theorem ok_init (T : Tx P K mg) : FnOk P w K mg base (L2.CX P w) 9 T.a_Book___init__ T.fd_Book___init__ ["self", "text"] (spInit T) := by
  have G_forms_in := ok_forms (w := w) (base := base) T
  refine T.F_Book___init__.okX sc_Book___init__ (fun vs H Q E h => ?_) (fun cdv A outer s H vs Q E hr h => ?_)
  · obtain ⟨a, dx, z, rfl, _⟩ := h
    rfl
  obtain ⟨a, dx, z, rfl, ha, tz, k⟩ := h
  refine ⟨_, (pss_cons (ps_fld (pv 0) (pe_call G_forms_in (hr.mono (by decide)) (by rfl) T.m_forms_in T.F_forms_in.kp T.b_forms_in .nil (passes_call (takes_of rfl rfl rfl rfl) fun _ _ _ _ h => h) (pa_cons (pv 1) pa_nil)) rfl)
    (pss_cons (ps_fld (pv 0) (pv 1) rfl)
    (pss_one (ps_fld (pv 0) (pe_callTy (call_tupleD rfl) (by rfl) T.n_tuple PyProof.Rows.Boot.«tuple» (pa_cons (pe_fld (pv 0) rfl) pa_nil)) rfl)))), ?_⟩
  refine ⟨_, rfl, [.str z], (fun d => ∃ rows, told z = .ok rows ∧ d = encD (formsOf rows)), (fun Ca d => (∃ n, told z = .bad n ∧ Ca = T.C_BadBook ∧ d = .int n) ∨ (∃ n, told z = .unnamed n ∧ Ca = T.C_Unnamed ∧ d = .int n) ∨ ∃ n, told z = .ring n ∧ Ca = T.C_Ring ∧ d = .int n), RpL.cons Rp.str RpL.nil, ⟨.str z, rfl, tz, ?_⟩, ?_, ?_⟩
  · cases told z with
    | bad n => exact .inl ⟨n, rfl, rfl, rfl⟩
    | unnamed n => exact .inr (.inl ⟨n, rfl, rfl, rfl⟩)
    | ring n => exact .inr (.inr ⟨n, rfl, rfl, rfl⟩)
    | ok rows => exact ⟨rows, rfl, rfl⟩
  · rintro d vf H1 ⟨rows, e, rfl⟩ s1 r1
    rw [e] at k
    have h1 := s1 _ _ ha
    refine ⟨_, rfl, a, T.C_Book, dx, [], rfl, h1, T.cl_Book, T.no_Book_own_forms, by simp, ?_⟩
    have r2 : Rp (upd H1 a (.ins T.C_Book dx (putF "own_forms" vf []))) (encD (formsOf rows)) vf := Rp.offI h1 _ _ r1
    refine ⟨_, rfl, _, rfl, a, T.C_Book, dx, putF "own_forms" vf [], rfl, upd_same, T.cl_Book, T.no_Book_own_text, by show 1 < 1000; decide, ?_⟩
    have r3 := Rp.offI (o := .ins T.C_Book dx (putF "own_text" (.str z) (putF "own_forms" vf []))) upd_same _ _ r2
    obtain ⟨b, ob, ks, rfl, hb, pr⟩ := rp_dict (show Rp _ (.dict (strP (encP (formsOf rows)))) vf from r3)
    refine ⟨_, rfl, a, T.C_Book, dx, _, .ref b, rfl, upd_same, T.cl_Book, T.no_Book_own_forms, rfl, b, ks, rfl, .inr ⟨ob, hb⟩, fun q nq => ?_⟩
    have ek : ks.map (fun kv => kV kv.1) = ((formsOf rows).map (·.1)).map V.str := by
      have e := pair_keys pr
      have := congrArg (List.map kV) e
      rw [List.map_map, List.map_map, enc_names2] at this
      exact this
    have h4 := same_new (o := .tup (ks.map fun kv => kV kv.1)) nq _ _ (upd_same (H := upd H1 a (.ins T.C_Book dx (putF "own_forms" (.ref b) []))) (a := a) (o := .ins T.C_Book dx (putF "own_text" (.str z) (putF "own_forms" (.ref b) []))))
    refine ⟨_, rfl, a, T.C_Book, dx, _, rfl, h4, T.cl_Book, T.no_Book_own_names, by show 2 < 1000; decide, ?_⟩
    refine k _ (.ref b) (.ref q) (fun c o nc hc => ?_) upd_same ?_ ?_
    · rw [upd_ne nc]
      refine same_new nq _ _ ?_
      rw [upd_ne nc, upd_ne nc]
      exact s1 _ _ hc
    · exact Rp.offI h4 _ _ (Rp.same r3 (same_new nq))
    · refine Rp.offI h4 _ _ (Rp.tup upd_same ?_)
      rw [ek, show ((formsOf rows).map fun r => PyData.str r.1) = ((formsOf rows).map (·.1)).map PyData.str by rw [List.map_map]; rfl]
      exact rpL_strs_of
  · rintro Ca d dd v H' h s' hd r
    rcases h with ⟨n, e, rfl, rfl⟩ | ⟨n, e, rfl, rfl⟩ | ⟨n, e, rfl, rfl⟩ <;> (cases rp_int r; rw [e] at k; exact k dd H' s' hd)
def spNames (T : Tx P K mg) : Sp := fun vs H Q _ => ∃ (a dx : Addr) (z : Str) (vf vn : V), vs = [.ref a] ∧ H a = some (.ins T.C_Book dx (bookO vf vn z)) ∧ Q vn H
theorem ok_bnames (T : Tx P K mg) : FnOk P w K mg base CX0 1 T.a_Book_names T.fd_Book_names ["self"] (spNames T) := by
  refine T.F_Book_names.ok sc_Book_names (fun vs H Q E h => ?_) (fun cdv A outer s H vs Q E hr h => ?_)
  · obtain ⟨a, dx, z, vf, vn, rfl, _⟩ := h
    rfl
  obtain ⟨a, dx, z, vf, vn, rfl, ha, k⟩ := h
  refine ⟨_, pss_one (ps_ret (pe_fld (pv 0) rfl)), ?_⟩
  exact ⟨_, rfl, a, T.C_Book, dx, _, vn, rfl, ha, T.cl_Book, T.no_Book_own_names, rfl, k⟩
end
end Bk
end
section
--@@ genb
set_option Elab.async false
set_option linter.all false
set_option maxRecDepth 100000
set_option maxHeartbeats 4000000
set_option synthInstance.maxHeartbeats 4000000
set_option synthInstance.maxSize 100000
namespace Bk
open PySem PySem.Spec PyProof.Rows L2 Tg Dw
local macro_rules | `(tactic| walk_at "c") => `(tactic| first | assumption | trivial | omega | (constructor <;> omega) | decide | exact len_ok (Nat.le_of_ble_eq_true rfl))
local macro_rules | `(tactic| walk_at "sq") => `(tactic| first | exact SqL.of (by assumption) | exact SqL.of upd_same | assumption | exact SqT.of (by assumption) | exact SqT.of upd_same | exact .inl (SqL.of (by assumption)) | exact .inr (SqT.of (by assumption)))
local macro_rules | `(tactic| walk_at "r1") => `(tactic| first
  | refine ⟨_, rfl, ?_⟩
  | refine ⟨_, _, rfl, rfl, ?_⟩
  | refine .inl ⟨_, rfl, ?_⟩
  | refine .inr ⟨_, rfl, ?_⟩
  | (apply Exists.intro; apply Exists.intro; apply Exists.intro; apply Exists.intro; refine And.intro rfl (And.intro rfl (And.intro ?sq ?_)); (case sq => walk_at "sq"); refine And.intro rfl ?_)
  | (apply Exists.intro; apply Exists.intro; apply Exists.intro; apply Exists.intro; refine And.intro rfl (And.intro rfl (And.intro ?hp ?_)); (case hp => first | assumption | exact upd_same); refine And.intro rfl ?_)
  | (refine And.intro ?c ?_; (case c => walk_at "c")))
local macro_rules | `(tactic| walk_at "r") => `(tactic| repeat walk_at "r1")
/-! ### the pot -/
theorem atI_mem {xs : List V} {i : Int} (h0 : 0 ≤ i) (h1 : i < xs.length) : ∃ v, atI xs i = some v ∧ v ∈ xs := by
  have hj : i.toNat < xs.length := by omega
  exact ⟨xs[i.toNat], at_of (j := i.toNat) (by omega) (List.getElem?_eq_getElem hj), List.getElem_mem hj⟩
def spTake : Sp := fun vs H Q _ => ∃ (p : Addr) (c n : Int), vs = [.ref p, .int n] ∧ PotAt H p c ∧ c < 1000000 ∧ 0 < n ∧ n < 1073741824 ∧
  ∀ (H' : Hp) (r : Int), But p H H' → PotAt H' p (c + 1) → 0 ≤ r → r < n → Q (.int r) H'
section
variable {P : Program} {w : World} {K : PySem.W.Frag} {mg : Str → Option Value} {base : Heap}
theorem sq_upd {H : Hp} {p : Addr} {xs : List V} : SqL K (upd H p (.lst xs)) p xs := SqL.of upd_same
theorem ok_take (T : Tx P K mg) : FnOk P w K mg base CX0 1 T.a__law_take T.fd__law_take ["_law_pot", "_law_upto"] spTake := by
  refine T.F__law_take.ok sc__law_take (fun vs H Q E h => ?_) (fun cdv A outer s H vs Q E hr h => ?_)
  · obtain ⟨p, c, n, rfl, _⟩ := h
    rfl
  obtain ⟨p, c, n, rfl, ⟨x, y, z, hp, hx, hy, hy2, hz, hz2⟩, hc, hn, hn2, k⟩ := h
  refine ⟨_, (pss_cons (ps_if (pt_cmpR op_gt (pe_ix ix_list (pv 0) pe_int (fun _ _ => rfl)) pe_int (nomark _)) (pss_cons (ps_set (i := 2) sc__law_take.nd rfl (Or.inl rfl) (pe_op op_mod (pe_callTy call_int1 (by rfl) T.n_int PyProof.Rows.Boot.«int» (pa_cons (pe_ix ix_list (pv 0) pe_int (fun _ _ => rfl)) pa_nil)) (pv 1)))
      (pss_cons (ps_asg (pe_op op_fdiv (pe_ix ix_list (pv 0) pe_int (fun _ _ => rfl)) (pv 1)) (pg_sub (pv 0) pe_int set_list))
      (pss_one (ps_ret (pv 2))))) pss_nil)
      (pss_cons (ps_asg (pe_op op_add (pe_ix ix_list (pv 0) pe_int (fun _ _ => rfl)) pe_int) (pg_sub (pv 0) pe_int set_list))
      (pss_cons (ps_set (i := 3) sc__law_take.nd rfl (Or.inl rfl) (pe_ix ix_list (pe_lst (pa_cons pe_int (pa_cons pe_int (pa_cons pe_int (pa_cons pe_int (pa_cons pe_int pa_nil)))))) (pe_op op_mod (pe_callTy call_int1 (by rfl) T.n_int PyProof.Rows.Boot.«int» (pa_cons (pe_ix ix_list (pv 0) pe_int (fun _ _ => rfl)) pa_nil)) pe_int) (fun _ _ => rfl)))
      (pss_cons (ps_set (i := 4) sc__law_take.nd rfl (Or.inl rfl) (pe_op op_mod (pe_callTy call_int1 (by rfl) T.n_int PyProof.Rows.Boot.«int» (pa_cons (pe_op op_pow (pe_op op_add (pe_op op_add (pe_ix ix_list (pv 0) pe_int (fun _ _ => rfl)) (pe_op op_mul (pe_op op_mul pe_int (pe_ix ix_list (pv 0) pe_int (fun _ _ => rfl))) (pe_ix ix_list (pv 0) pe_int (fun _ _ => rfl)))) pe_int) pe_int) pa_nil)) (pv 3)))
      (pss_one (ps_ret (pe_op op_mod (pe_callTy call_int1 (by rfl) T.n_int PyProof.Rows.Boot.«int» (pa_cons (pe_op op_fdiv (pe_op op_mul (pv 4) (pe_op op_add (pe_op op_mod (pe_callTy call_int1 (by rfl) T.n_int PyProof.Rows.Boot.«int» (pa_cons (pv 4) pa_nil)) pe_int) (pe_op op_mul pe_int (pe_ix ix_list (pv 0) pe_int (fun _ _ => rfl))))) pe_int) pa_nil)) (pv 1)))))))), ?_⟩
  walk_at "r"
  refine ite2 (fun hb => ?_) fun hb => ?_
  · have hx0 : 0 < x := of_decide_eq_true hb
    walk_at "r"
    refine k _ (x % n) (fun b o nb e => ?_) ⟨x / n, y, z, upd_same, ?_, hy, hy2, hz, by omega⟩ (Int.emod_nonneg _ (by omega)) (Int.emod_lt_of_pos _ hn)
    · rw [upd_ne nb]
      exact e
    · exact Int.ediv_nonneg hx (by omega)
  · walk_at "r"
    intro q hq
    have nq : p ≠ q := by
      rintro rfl
      rw [upd_same] at hq
      cases hq
    have bt : But p H (upd (upd H p (.lst [.int x, .int y, .int (z + 1)])) q (.lst [.int 2147483647, .int 2147483629, .int 2147483587, .int 2147483579, .int 2147483563])) := fun b o nb e => by
      have n2 : b ≠ q := by
        rintro rfl
        have hq' : upd H p _ b = none := hq
        rw [upd_ne nb, e] at hq'
        cases hq'
      rw [upd_ne n2, upd_ne nb]
      exact e
    have hp1 : (upd (upd H p (.lst [.int x, .int y, .int (z + 1)])) q (.lst [.int 2147483647, .int 2147483629, .int 2147483587, .int 2147483579, .int 2147483563])) p = some (.lst [.int x, .int y, .int (z + 1)]) := by rw [upd_ne nq, upd_same]
    have hq1 : (upd (upd H p (.lst [.int x, .int y, .int (z + 1)])) q (.lst [.int 2147483647, .int 2147483629, .int 2147483587, .int 2147483579, .int 2147483563])) q = some (.lst [.int 2147483647, .int 2147483629, .int 2147483587, .int 2147483579, .int 2147483563]) := upd_same
    change tOp (rI (fun _ j => 0 < j) fun i j => V.int (i % j)) _ _ _ (upd (upd H p (.lst [.int x, .int y, .int (z + 1)])) q (.lst [.int 2147483647, .int 2147483629, .int 2147483587, .int 2147483579, .int 2147483563])) _
    generalize upd (upd H p (.lst [.int x, .int y, .int (z + 1)])) q (.lst [.int 2147483647, .int 2147483629, .int 2147483587, .int 2147483579, .int 2147483563]) = H1 at bt hp1 hq1 ⊢
    walk_at "r"
    obtain ⟨v, hv, hm⟩ := atI_mem (xs := [V.int 2147483647, .int 2147483629, .int 2147483587, .int 2147483579, .int 2147483563]) (i := (z + 1) % 5) (Int.emod_nonneg _ (by decide)) (Int.emod_lt_of_pos _ (by decide))
    obtain ⟨pr, rfl, pr0, pr1⟩ : ∃ pr : Int, v = .int pr ∧ 0 < pr ∧ pr < 2147483648 := by
      simp only [List.mem_cons, List.not_mem_nil, or_false] at hm
      rcases hm with rfl | rfl | rfl | rfl | rfl <;> exact ⟨_, rfl, by decide, by decide⟩
    refine ⟨q, _, _, _, rfl, rfl, SqL.of hq1, hv, ?_⟩
    have hzz : 80021 * (z + 1) * (z + 1) < 90000000000000000 := by
      have h1 : 80021 * (z + 1) * (z + 1) ≤ 80021 * 1000000 * 1000000 := Int.mul_le_mul (Int.mul_le_mul (by decide) (by omega) (by omega) (by decide)) (by omega) (by omega) (by decide)
      omega
    have hzz0 : 0 ≤ 80021 * (z + 1) * (z + 1) := Int.mul_nonneg (Int.mul_nonneg (by decide) (by omega)) (by omega)
    have st0 := Int.emod_nonneg ((y + 80021 * (z + 1) * (z + 1) + 59) ^ Int.toNat 3) (show pr ≠ 0 by omega)
    have st1 := Int.emod_lt_of_pos ((y + 80021 * (z + 1) * (z + 1) + 59) ^ Int.toNat 3) pr0
    walk_at "r"
    exact k H1 _ bt ⟨x, y, z + 1, hp1, hx, hy, hy2, by omega, by omega⟩ (Int.emod_nonneg _ (by omega)) (Int.emod_lt_of_pos _ hn)

def spOf (K : PySem.W.Frag) : Sp := fun vs H Q _ => ∃ (p l : Addr) (c : Int) (xs : List V), vs = [.ref p, .ref l] ∧ PotAt H p c ∧ c < 1000000 ∧ SqL K H l xs ∧ l ≠ p ∧ xs ≠ [] ∧ xs.length < 1000 ∧
  ∀ (H' : Hp) (v : V), But p H H' → PotAt H' p (c + 1) → v ∈ xs → Q v H'
theorem sq_but {p l : Addr} {H H' : Hp} {xs : List V} (b : But p H H') (n : l ≠ p) (h : SqL K H l xs) : SqL K H' l xs := by
  rcases h with (h | ⟨o, h⟩) | h
  · exact .inl (.inl (b _ _ n h))
  · exact .inl (.inr ⟨o, b _ _ n h⟩)
  · exact .inr h
theorem ok_of (T : Tx P K mg) : FnOk P w K mg base CX0 2 T.a__law_of T.fd__law_of ["_law_pot", "_law_some"] (spOf K) := by
  have G__law_take := ok_take (w := w) (base := base) T
  refine T.F__law_of.ok sc__law_of (fun vs H Q E h => ?_) (fun cdv A outer s H vs Q E hr h => ?_)
  · obtain ⟨p, l, c, xs, rfl, _⟩ := h
    rfl
  obtain ⟨p, l, c, xs, rfl, hp, hc, hl, nl, nx, hz, k⟩ := h
  have hz0 : 0 < xs.length := List.length_pos_iff.mpr nx
  refine ⟨_, (pss_one (ps_ret (pe_ix ix_list (pv 1) (pe_call G__law_take (hr.mono (by first | decide | omega)) (by rfl) T.m__law_take T.F__law_take.kp T.b__law_take .nil pass0 (pa_cons (pv 0) (pa_cons (pe_callB call_len (by rfl) T.n_len PyProof.Rows.Boot.«len» (pa_cons (pv 1) pa_nil)) pa_nil))) (fun _ _ => rfl)))), ?_⟩
  refine ⟨_, rfl, _, rfl, _, rfl, _, _, rfl, .inl ⟨_, hl, rfl⟩, p, c, _, rfl, hp, hc, by omega, by omega, fun H' r bt hp' h0 h1 => ?_⟩
  obtain ⟨v, hv, hm⟩ := atI_mem h0 h1
  exact ⟨l, xs, r, v, rfl, rfl, sq_but bt nl hl, hv, k H' v bt hp' hm⟩

def spPot (K : PySem.W.Frag) : Sp := fun vs H Q _ => ∃ (a : Addr) (ns : List Int) (i : Int), vs = [.ref a, .int i] ∧ SqL K H a (ns.map V.int) ∧ ns.length ≤ 63 ∧ 0 ≤ i ∧ i < 100 ∧
  ∀ (H' : Hp) (p : Addr), Same H H' → H p = none → PotAt H' p 0 → Q (.ref p) H'
theorem cmul_b {x : Int} {c : Bool} : CMul x (if c = true then 1 else 0) := .inr (by cases c <;> decide)
theorem own_nn {x m : Int} {c : Bool} (hm : 0 < m) : 0 ≤ x % m * (if c = true then 1 else 0) := Int.mul_nonneg (Int.emod_nonneg _ (by omega)) (by cases c <;> decide)
local macro_rules | `(tactic| walk_at "pot") => `(tactic| (
  walk_at "r"
  refine ⟨cmul_b, ?_⟩
  walk_at "r"))
theorem ok_pot (T : Tx P K mg) : FnOk P w K mg base CX0 1 T.a__law_pot_of T.fd__law_pot_of ["_law_script", "_law_k"] (spPot K) := by
  refine T.F__law_pot_of.ok sc__law_pot_of (fun vs H Q E h => ?_) (fun cdv A outer s H vs Q E hr h => ?_)
  · obtain ⟨a, ns, i, rfl, _⟩ := h
    rfl
  obtain ⟨a, ns, i, rfl, ha, hz, h0, h1, k⟩ := h
  refine ⟨_, (pss_cons (ps_set (i := 2) sc__law_pot_of.nd rfl (Or.inl rfl) (pe_ifExp (pt_cmpR op_lt (pv 1) (pe_callB call_len (by rfl) T.n_len PyProof.Rows.Boot.«len» (pa_cons (pv 0) pa_nil)) (nomark _)) (pe_ix ix_list (pv 0) (pv 1) (fun _ _ => rfl)) (pe_op op_add (pe_op op_mul pe_int (pv 1)) pe_int)))
      (pss_cons (ps_set (i := 3) sc__law_pot_of.nd rfl (Or.inl rfl) (pe_op op_mul (pe_op op_mod (pe_callTy call_int1 (by rfl) T.n_int PyProof.Rows.Boot.«int» (pa_cons (pe_callB call_abs (by rfl) T.n_abs PyProof.Rows.Boot.«abs» (pa_cons (pv 2) pa_nil)) pa_nil)) (pe_op op_powW (pe_op op_pow pe_int pe_int) pe_int)) (pe_callTy call_int1 (by rfl) T.n_int PyProof.Rows.Boot.«int» (pa_cons (pe_cmpR op_ge (pe_callB call_abs (by rfl) T.n_abs PyProof.Rows.Boot.«abs» (pa_cons (pv 2) pa_nil)) (pe_op op_pow pe_int pe_int) (nomark _)) pa_nil))))
      (pss_one (ps_ret (pe_lst (pa_cons (pv 3) (pa_cons (pe_op op_mod (pe_callTy call_int1 (by rfl) T.n_int PyProof.Rows.Boot.«int» (pa_cons (pe_op op_add (pe_op op_add (pe_op op_mul (pe_op op_mod (pe_callTy call_int1 (by rfl) T.n_int PyProof.Rows.Boot.«int» (pa_cons (pv 2) pa_nil)) pe_int) pe_int) (pe_op op_mul (pe_op op_mul pe_int (pv 1)) (pv 1))) pe_int) pa_nil)) pe_int) (pa_cons pe_int pa_nil)))))))), ?_⟩
  refine ⟨_, rfl, _, rfl, _, _, rfl, .inl ⟨_, ha, rfl⟩, _, _, rfl, rfl, _, rfl, ite2 (fun hb => ?_) fun hb => ?_⟩
  · obtain ⟨v, hv, hm⟩ := atI_mem (xs := ns.map V.int) h0 (of_decide_eq_true hb)
    obtain ⟨cell, _, rfl⟩ := List.mem_map.mp hm
    refine ⟨_, rfl, _, rfl, a, _, _, _, rfl, rfl, ha, hv, ?_⟩
    walk_at "pot"
    exact fun p np => k _ p (same_new np) np ⟨_, _, _, upd_same, own_nn (by decide), Int.emod_nonneg _ (by decide), Int.emod_lt_of_pos _ (by decide), Int.le_refl _, Int.le_refl _⟩
  · walk_at "r"
    walk_at "pot"
    exact fun p np => k _ p (same_new np) np ⟨_, _, _, upd_same, own_nn (by decide), Int.emod_nonneg _ (by decide), Int.emod_lt_of_pos _ (by decide), Int.le_refl _, Int.le_refl _⟩
end
end Bk
end
section
--@@ genb
set_option Elab.async false
set_option linter.all false
set_option maxRecDepth 100000
set_option maxHeartbeats 4000000
set_option pp.maxSteps 3000
set_option synthInstance.maxHeartbeats 4000000
set_option synthInstance.maxSize 100000
namespace Bk
open PySem PySem.Spec PyProof.Rows L2 Tg Dw En
local macro_rules | `(tactic| walk_at "d") => `(tactic| simp (maxSteps := 4000000) only [DVar, DCon, DLock, DLockV, DCons, DNil, DOp, DOpN, DUn, DTup, DLst, DCB, DCBN, DMt, DMtN, isB, DB, DNot, DAnd, DOr, DAndV, DOrV, DNotV, DIf, DChain, DNext, DSeq, DIfS, DRet, DDrop, DSet, DSetN, GName, GNil, GCons, GTup, DAsgG, DPar, isL, isT, isS, isI, IList, ITup, IStr, IRng1, IRng2, DFor, DLc, DYes, RInt, RIntC, RStr, RCatS, eqC, REq, RNe, isNone, RIsN, RNotN, RInS, RIx, RSlS, ONone, OSome, DSl, DSlN, on1, on2, RLen, RIntOf, RIntS, RStrI, RAbs, RMin2, RMax2, RAll, RAny, NList, RTuple, RReprD, MStarts, MFind, MJoin, tyB, DIs, DIs3, DApp, DCall, DCallX, DRaise, startD, RAdd, RLe, RInX, NCat, RMulX, NSlL, DFzS, DAug, DCallP, startP, wipeD, IItems, DDGet, DDIn, NSortedD, NListD, MDict, DCBM, DParND, DParNN, DPar3N, DPar3, GPut, DPeek, DNe0, DPop, DLenO, DPar3M, DRepl, DDisp1, DNone1, DLam, kD, DMatch, DArms, NSplit, NSortedS, DStar, DDc, flD, inF, eqF, DPeek1, restS, pickS, DLenSet, DSortSet, RDeq, RDne, RDin, DLc2, IEnAt, IKeys, IEnum, IZip, MStarts1, DStarC, DStarS, isStr, ISeq, RCatT, RSlT, RSum, MJoin2, NRep, DParDN, DExt, DListItems, GLst, DPar3DNN, DPutNew, List.length_cons, List.length_nil, List.map_cons, List.map_nil, List.replicate_succ, List.replicate_zero, List.cons_append, List.nil_append, List.getElem?_cons_zero, List.getElem?_cons_succ, List.set_cons_zero, List.set_cons_succ, Nat.reduceAdd, Nat.reduceSub, Nat.zero_add, Bool.not_true, Bool.not_false, Bool.false_eq_true, if_true, if_false, reduceIte, reduceCtorEq, beq_self_eq_true, Bool.true_or, Bool.or_true, Bool.false_or, Bool.or_false, String.reduceBEq, Option.some.injEq, false_and, and_false, exists_const, true_and, and_true, PyData.str.injEq, exists_eq', exists_eq_left', Nat.reduceLeDiff, DV.l.injEq, DV.m.injEq, DV.pot.injEq, List.all_cons, List.all_nil, List.any_cons, List.any_nil, Bool.and_self, Bool.and_true, Bool.true_and, List.zipWith_cons_cons, List.zipWith_nil_right])
section
variable {P : Program} {w : World} {K : PySem.W.Frag} {mg : Str → Option Value} {base : Heap}
/-! ### draws -/
def FTake : DP := fun c ds Kk => ∃ n : Int, ds = [.int n] ∧ c < 1000000 ∧ 0 < n ∧ n < 1073741824 ∧ ∀ r : Nat, (r : Int) < n → Kk (.int r) (c + 1)
theorem okP_take (T : Tx P K mg) : FnOk P w K mg base CX0 1 T.a__law_take T.fd__law_take ["_law_pot", "_law_upto"] (spP FTake) := Dw.FnOk.sub (ok_take T) fun vs H Q E h => by
  obtain ⟨p, c, ds, vs', Kk, rfl, hp, r, ⟨n, rfl, hc, h0, h1, k⟩, q⟩ := h
  obtain ⟨x, rfl, r1⟩ := rpL1 r
  cases rp_int r1
  refine ⟨p, c, n, rfl, hp, hc, h0, h1, fun H' r b hp' r0 r1 => ?_⟩
  obtain ⟨m, rfl⟩ := Int.eq_ofNat_of_zero_le r0
  exact q _ _ _ _ (k m r1) b hp' Rp.int
def FOf : DP := fun c ds Kk => ∃ xs : List PyData, ds = [.list xs] ∧ c < 1000000 ∧ xs ≠ [] ∧ xs.length < 1000 ∧ ∀ d ∈ xs, Kk d (c + 1)
theorem rpL_mem {H : Hp} : ∀ {ds : List PyData} {xs : List V} {v : V}, RpL H ds xs → v ∈ xs → ∃ d ∈ ds, Rp H d v
  | [], xs, v, r, h => by simp only [RpL] at r; subst r; cases h
  | d :: ds, xs, v, r, h => by
    simp only [RpL] at r
    obtain ⟨x, r', rfl, h1, h2⟩ := r
    rcases List.mem_cons.mp h with rfl | h
    · exact ⟨d, List.mem_cons_self, h1⟩
    · obtain ⟨e, m, q⟩ := rpL_mem h2 h
      exact ⟨e, List.mem_cons_of_mem _ m, q⟩
theorem okP_of (T : Tx P K mg) : FnOk P w K mg base CX0 2 T.a__law_of T.fd__law_of ["_law_pot", "_law_some"] (spP FOf) := Dw.FnOk.sub (ok_of T) fun vs H Q E h => by
  obtain ⟨p, c, ds, vs', Kk, rfl, hp, r, ⟨xs, rfl, hc, h0, h1, k⟩, q⟩ := h
  obtain ⟨x, rfl, r1⟩ := rpL1 r
  obtain ⟨a, o, vs, rfl, ha, rl⟩ := rp_list r1
  obtain ⟨ys, hx⟩ := hp.ld
  have hl := rpL_len rl
  refine ⟨p, a, c, vs, rfl, hp, hc, .inl (.inr ⟨o, ha⟩), (fun z => by rw [z, hx] at ha; cases ha), fun z => h0 (by subst z; exact List.length_eq_zero_iff.mp hl), by omega, fun H' v b hp' m => ?_⟩
  obtain ⟨d, md, rd⟩ := rpL_mem rl m
  exact q _ _ _ _ (k d md) b hp' (rd.keep (kp_but hx True.intro b))
theorem cut_take (xs : List PyData) {r : Nat} (h : r ≤ xs.length) : Dw.cutD xs none (some (r : Int)) = xs.take r := by
  unfold Dw.cutD
  rw [HT.sIx_nat, HT.sIx_none, List.drop_zero, Nat.sub_zero, Nat.min_eq_left h]
theorem cut_drop (xs : List PyData) {r : Nat} (h : r ≤ xs.length) : Dw.cutD xs (some (r : Int)) none = xs.drop r := by
  unfold Dw.cutD
  rw [HT.sIx_nat, HT.sIx_none, Nat.min_eq_left h]
  apply List.take_of_length_le
  rw [List.length_drop]
  exact Nat.le_refl _
/-- m things of xs, no place twice -/
def FUnl : DP := fun c ds Kk => ∃ (xs : List PyData) (m : Nat), ds = [.list xs, .int m] ∧ c + m < 1000000 ∧ xs.length < 1000 ∧ ∀ (ys rest : List PyData), (ys ++ rest).Perm xs → ys.length = min m xs.length → Kk (.list ys) (c + (min m xs.length : Nat))
theorem ok_unl (T : Tx P K mg) : FnOk P w K mg base CX0 2 T.a__law_unlike T.fd__law_unlike ["_law_pot", "_law_some", "_law_many"] (spP FUnl) := by
  have G__law_take := okP_take (w := w) (base := base) T
  refine Dw.okP T.F__law_unlike sc__law_unlike (by decide) (fun c ds Kk h => ?_) (fun cdv A outer s H E p c ds Kk hr h => ⟨_, _, (pss_cons (ps_par (i := 3) (j := 4) (by rfl) sc__law_unlike.nd rfl rfl (by decide) rfl rfl (pa_cons (pe_fz (pe_callTy dList (by rfl) T.n_list PyProof.Rows.Boot.«list» (pa_cons (pv 1) pa_nil))) (pa_cons (pe_lst pa_nil) pa_nil)) (by rfl))
      (pss_cons (ps_for PassesOwn.never rfl (pi_range1 (by rfl) T.n_range (pa_cons (pe_callB (dMin2 rfl) (by rfl) T.n_min PyProof.Rows.Boot.«min» (pa_cons (pv 2) (pa_cons (pe_callB dLen (by rfl) T.n_len PyProof.Rows.Boot.«len» (pa_cons (pv 3) pa_nil)) pa_nil))) pa_nil)) (pg_name (i := 5) sc__law_unlike.nd rfl (Or.inl rfl)) (pss_cons (ps_set (i := 6) sc__law_unlike.nd rfl (Or.inl rfl) (pe_call G__law_take (hr.mono (by first | decide | omega)) (by rfl) T.m__law_take T.F__law_take.kp T.b__law_take .nil pass0 (pa_cons (pv 0) (pa_cons (pe_callB dLen (by rfl) T.n_len PyProof.Rows.Boot.«len» (pa_cons (pv 3) pa_nil)) pa_nil))))
      (pss_cons (ps_expr (pe_bm PySem.F.plainAttrs_list PySem.F.slot_list_append PySem.F.type_list_append mt_append (pv 4) (pa_cons (pe_ix dIx (pv 3) (pv 6) (fun _ _ => rfl)) pa_nil)))
      (pss_one (ps_set (i := 3) sc__law_unlike.nd rfl (Or.inl rfl) (pe_fz (pe_op dCat (pe_fz (pe_slice dSlL (pv 3) po_none (po_some (pv 6)))) (pe_fz (pe_slice dSlL (pv 3) (po_some (pe_op dAddX (pv 6) pe_int)) po_none)))))))))
      (pss_one (ps_ret (pe_fz (pv 4)))))), inferInstance, ?_⟩)
  · obtain ⟨xs, m, rfl, _⟩ := h
    rfl
  obtain ⟨xs, m, rfl, hc, hl, k⟩ := h
  walk_at "d"
  obtain ⟨q, hq, hq1⟩ : ∃ q : Nat, (if (xs.length : Int) < (m : Int) then (xs.length : Int) else (m : Int)) = (q : Int) ∧ q = min m xs.length := by
    by_cases h : (xs.length : Int) < (m : Int)
    · exact ⟨xs.length, if_pos h, by omega⟩
    · exact ⟨m, if_neg h, by omega⟩
  rw [hq]
  refine ⟨⟨by omega, by omega⟩, fun i ρ => ∃ (left found : List PyData) (x5 x6 : Option DV), ρ = [some (.pot p (c + i)), some (.d (.list xs)), some (.d (.int m)), some (.d (.list left)), some (.l found), x5, x6] ∧ found.length = i ∧ (found ++ left).Perm xs, ⟨xs, [], none, none, by simp, rfl, by simp⟩, ?_, ?_⟩
  · rintro i x ρ hx ⟨left, found, x5, x6, rfl, h2, h3⟩
    have hi : i < q := by
      have := (List.getElem?_eq_some_iff.mp hx).1
      simpa [rngD] using this
    have hlen := h3.length_eq
    rw [List.length_append] at hlen
    walk_at "d"
    refine ⟨⟨_, _, rfl, rfl⟩, _, rfl, by omega, by omega, by omega, fun r hr => ?_⟩
    have hr : r < left.length := by omega
    dsimp only
    have e1 := cut_take left (r := r) (by omega)
    have e2 := cut_drop left (r := r + 1) (by omega)
    rw [show (((r + 1 : Nat)) : Int) = (r : Int) + 1 by omega] at e2
    rw [e1, e2]
    refine ⟨left[r], at_nat (List.getElem?_eq_getElem hr), by omega, by rw [List.length_take, List.length_drop]; omega, left.take r ++ left.drop (r + 1), found ++ [left[r]], some (.d x), some (.d (.int r)), ?_, by rw [List.length_append, List.length_singleton]; omega, ?_⟩
    · rw [show c + ((i + 1 : Nat) : Int) = c + i + 1 by omega]
    · refine List.Perm.trans ?_ h3
      rw [List.append_assoc]
      refine List.Perm.append_left found ?_
      have e3 : left = left.take r ++ left[r] :: left.drop (r + 1) := by
        rw [← List.drop_eq_getElem_cons hr, List.take_append_drop]
      refine List.Perm.trans ?_ (List.Perm.of_eq e3.symm)
      show (left[r] :: (left.take r ++ left.drop (r + 1))).Perm _
      exact List.perm_middle.symm
  · rintro ρ ⟨left, found, x5, x6, rfl, h2, h3⟩
    have e : (rngD 0 (q : Int).toNat).length = q := by simp [rngD]
    rw [e] at h2 ⊢
    refine ⟨_, rfl, ?_⟩
    rw [hq1]
    exact k found left h3 (by omega)
end
end Bk
end
section
--@@ genb
set_option Elab.async false
set_option linter.all false
set_option maxRecDepth 100000
set_option maxHeartbeats 4000000
set_option pp.maxSteps 3000
set_option synthInstance.maxHeartbeats 4000000
set_option synthInstance.maxSize 100000
namespace Bk
open PySem PySem.Spec PyProof.Rows L2 Tg Dw En
local macro_rules | `(tactic| walk_at "d") => `(tactic| simp (maxSteps := 4000000) only [DVar, DCon, DLock, DLockV, DCons, DNil, DOp, DOpN, DUn, DTup, DLst, DCB, DCBN, DMt, DMtN, isB, DB, DNot, DAnd, DOr, DAndV, DOrV, DNotV, DIf, DChain, DNext, DSeq, DIfS, DRet, DDrop, DSet, DSetN, GName, GNil, GCons, GTup, DAsgG, DPar, isL, isT, isS, isI, IList, ITup, IStr, IRng1, IRng2, DFor, DLc, DYes, RInt, RIntC, RStr, RCatS, eqC, REq, RNe, isNone, RIsN, RNotN, RInS, RIx, RSlS, ONone, OSome, DSl, DSlN, on1, on2, RLen, RIntOf, RIntS, RStrI, RAbs, RMin2, RMax2, RAll, RAny, NList, RTuple, RReprD, MStarts, MFind, MJoin, tyB, DIs, DIs3, DApp, DCall, DCallX, DRaise, startD, RAdd, RLe, RInX, NCat, RMulX, NSlL, DFzS, DAug, DCallP, startP, wipeD, IItems, DDGet, DDIn, NSortedD, NListD, MDict, DCBM, DParND, DParNN, DPar3N, DPar3, GPut, DPeek, DNe0, DPop, DLenO, DPar3M, DRepl, DDisp1, DNone1, DLam, kD, DMatch, DArms, NSplit, NSortedS, DStar, DDc, flD, inF, eqF, DPeek1, restS, pickS, DLenSet, DSortSet, RDeq, RDne, RDin, DLc2, IEnAt, IKeys, IEnum, IZip, MStarts1, DStarC, DStarS, isStr, ISeq, RCatT, RSlT, RSum, MJoin2, NRep, DParDN, DExt, DListItems, GLst, DPar3DNN, DPutNew, List.length_cons, List.length_nil, List.map_cons, List.map_nil, List.replicate_succ, List.replicate_zero, List.cons_append, List.nil_append, List.getElem?_cons_zero, List.getElem?_cons_succ, List.set_cons_zero, List.set_cons_succ, Nat.reduceAdd, Nat.reduceSub, Nat.zero_add, Bool.not_true, Bool.not_false, Bool.false_eq_true, if_true, if_false, reduceIte, reduceCtorEq, beq_self_eq_true, Bool.true_or, Bool.or_true, Bool.false_or, Bool.or_false, String.reduceBEq, Option.some.injEq, false_and, and_false, exists_const, true_and, and_true, PyData.str.injEq, exists_eq', exists_eq_left', Nat.reduceLeDiff, DV.l.injEq, DV.m.injEq, DV.pot.injEq, List.all_cons, List.all_nil, List.any_cons, List.any_nil, Bool.and_self, Bool.and_true, Bool.true_and, List.zipWith_cons_cons, List.zipWith_nil_right])
def unS : PyData → Str
  | .str x => x
  | _ => Str.ofString ""
theorem unS_map : ∀ {ys : List PyData} {us : List Str}, (∀ y ∈ ys, y ∈ us.map PyData.str) → ys = (ys.map unS).map .str
  | [], _, _ => rfl
  | y :: ys, us, h => by
    obtain ⟨u, _, e⟩ := List.mem_map.mp (h y List.mem_cons_self)
    rw [List.map_cons, List.map_cons, ← unS_map (us := us) fun z hz => h z (List.mem_cons_of_mem _ hz), ← e]
    rfl
theorem perm_strs {ys rest : List PyData} {us : List Str} (h : (ys ++ rest).Perm (us.map .str)) : ∃ ws wr : List Str, ys = ws.map .str ∧ rest = wr.map .str ∧ (ws ++ wr).Perm us := by
  refine ⟨ys.map unS, rest.map unS, unS_map (us := us) fun y hy => h.mem_iff.mp (List.mem_append_left _ hy), unS_map (us := us) fun y hy => h.mem_iff.mp (List.mem_append_right _ hy), ?_⟩
  rw [← List.map_append]
  refine List.Perm.trans (h.map unS) ?_
  rw [List.map_map]
  have : us.map (unS ∘ PyData.str) = us := by
    have e : (unS ∘ PyData.str) = id := rfl
    rw [e, List.map_id]
  rw [this]
theorem names_sub {ws wr us : List Str} (h : (ws ++ wr).Perm us) (hn : areNames us = true) : areNames ws = true := by
  unfold areNames at *
  rw [Bool.and_eq_true, List.all_eq_true, decide_eq_true_eq] at *
  exact ⟨fun x hx => hn.1 x (h.mem_iff.mp (List.mem_append_left _ hx)), (List.nodup_append.mp (h.nodup_iff.mpr hn.2)).1⟩
theorem names_sublist {ws us : List Str} (h : ws.Sublist us) (hn : areNames us = true) : areNames ws = true := by
  unfold areNames at *
  rw [Bool.and_eq_true, List.all_eq_true, decide_eq_true_eq] at *
  exact ⟨fun x hx => hn.1 x (h.subset hx), hn.2.sublist h⟩
section
variable {P : Program} {w : World} {K : PySem.W.Frag} {mg : Str → Option Value} {base : Heap}
def FPlain : DP := fun c ds Kk => ds = [] ∧ c < 900000 ∧ ∀ (f : Form) (c' : Int), gForm f → c' ≤ c + 10 → Kk (encF f) c'
theorem ok_plain (T : Tx P K mg) : FnOk P w K mg base CX0 3 T.a__law_plain T.fd__law_plain ["_law_pot"] (spP FPlain) := by
  have G__law_take := okP_take (w := w) (base := base) T
  have G__law_unlike := ok_unl (w := w) (base := base) T
  refine Dw.okP T.F__law_plain sc__law_plain (by decide) (fun c ds Kk h => ?_) (fun cdv A outer s H E p c ds Kk hr h => ⟨_, _, (pss_cons (ps_set (i := 1) sc__law_plain.nd rfl (Or.inl rfl) (pe_call G__law_take (hr.mono (by first | decide | omega)) (by rfl) T.m__law_take T.F__law_take.kp T.b__law_take .nil pass0 (pa_cons (pv 0) (pa_cons pe_int pa_nil))))
      (pss_cons (ps_if (pt_cmpR dLt (pv 1) pe_int (nomark _)) (pss_one (ps_ret (pe_tup (pa_cons (pe_ix dIx (pe_fz (pe_lst (pa_cons pe_str (pa_cons pe_str (pa_cons pe_str pa_nil))))) (pv 1) (fun _ _ => rfl)) pa_nil)))) pss_nil)
      (pss_cons (ps_if (pt_cmpR dLt (pv 1) pe_int (nomark _)) (pss_cons (ps_set (i := 2) sc__law_plain.nd rfl (Or.inl rfl) (pe_op dSub (pe_call G__law_take (hr.mono (by first | decide | omega)) (by rfl) T.m__law_take T.F__law_take.kp T.b__law_take .nil pass0 (pa_cons (pv 0) (pa_cons pe_int pa_nil))) pe_int))
      (pss_one (ps_ret (pe_tup (pa_cons pe_str (pa_cons (pv 2) (pa_cons (pe_op dAddX (pv 2) (pe_call G__law_take (hr.mono (by first | decide | omega)) (by rfl) T.m__law_take T.F__law_take.kp T.b__law_take .nil pass0 (pa_cons (pv 0) (pa_cons pe_int pa_nil)))) pa_nil))))))) pss_nil)
      (pss_one (ps_ret (pe_tup (pa_cons pe_str (pa_cons (pe_callTy dTuple (by rfl) T.n_tuple PyProof.Rows.Boot.«tuple» (pa_cons (pe_call G__law_unlike (hr.mono (by first | decide | omega)) (by rfl) T.m__law_unlike T.F__law_unlike.kp T.b__law_unlike .nil pass0 (pa_cons (pv 0) (pa_cons (pe_fz (pe_lst (pa_cons pe_str (pa_cons pe_str (pa_cons pe_str (pa_cons pe_str (pa_cons pe_str (pa_cons pe_str pa_nil)))))))) (pa_cons (pe_op dAddX pe_int (pe_call G__law_take (hr.mono (by first | decide | omega)) (by rfl) T.m__law_take T.F__law_take.kp T.b__law_take .nil pass0 (pa_cons (pv 0) (pa_cons pe_int pa_nil)))) pa_nil)))) pa_nil)) pa_nil)))))))), inferInstance, ?_⟩)
  · obtain ⟨rfl, _⟩ := h
    rfl
  obtain ⟨rfl, hc, k⟩ := h
  walk_at "d"
  refine ⟨⟨_, _, rfl, rfl⟩, 6, rfl, by omega, by decide, by decide, fun r hr => ?_⟩
  dsimp only
  by_cases h3 : (r : Int) < 3
  · rw [if_pos (decide_eq_true h3)]
    have h3 : r < 3 := by omega
    match r, h3 with
    | 0, _ => exact ⟨_, at_nat (i := 0) rfl, k (.bare (Str.ofString "none")) _ (.inl rfl) (by omega)⟩
    | 1, _ => exact ⟨_, at_nat (i := 1) rfl, k (.bare (Str.ofString "bool")) _ (.inr (.inl rfl)) (by omega)⟩
    | 2, _ => exact ⟨_, at_nat (i := 2) rfl, k (.bare (Str.ofString "text")) _ (.inr (.inr rfl)) (by omega)⟩
  · rw [if_neg (by rw [decide_eq_true_eq]; exact h3)]
    by_cases h5 : (r : Int) < 5
    · rw [if_pos (decide_eq_true h5)]
      refine ⟨⟨_, _, rfl, rfl⟩, 3, rfl, by omega, by decide, by decide, fun x hx => ?_⟩
      refine ⟨⟨_, _, rfl, rfl⟩, 4, rfl, by omega, by decide, by decide, fun y hy => ?_⟩
      exact k (.int ((x : Int) - 1) ((x : Int) - 1 + y)) _ ⟨by omega, by omega, by omega⟩ (by omega)
    · rw [if_neg (by rw [decide_eq_true_eq]; exact h5)]
      refine ⟨⟨_, _, rfl, rfl⟩, ⟨_, _, rfl, rfl⟩, 3, rfl, by omega, by decide, by decide, fun y hy => ?_⟩
      refine ⟨_, 1 + y, by rw [show (1 : Int) + (y : Int) = ((1 + y : Nat) : Int) by omega], by omega, by simp, fun ys rest pm ln => ?_⟩
      obtain ⟨ws, wr, rfl, rfl, pm2⟩ := perm_strs (us := [Str.ofString "a", Str.ofString "b", Str.ofString "one", Str.ofString "two", Str.ofString "none", Str.ofString "x"]) pm
      have ln2 : ws.length = 1 + y := by
        rw [List.length_map] at ln
        simp only [List.length_cons, List.length_nil] at ln
        omega
      refine k (.word ws) _ ⟨fun z => by rw [z] at ln2; simp at ln2; omega, by omega, names_sub pm2 (by decide +kernel)⟩ ?_
      simp only [List.length_cons, List.length_nil]
      omega
/-- names as data -/
def Nms (us : List Str) : Prop := us ≠ [] ∧ us.length ≤ 100 ∧ ∀ u ∈ us, isNmS u = true
def FList : DP := fun c ds Kk => ∃ us : List Str, ds = [.list (us.map .str)] ∧ Nms us ∧ c < 900000 ∧ ∀ (f : Form) (c' : Int), gForm f → c' ≤ c + 10 → Kk (encF f) c'
theorem ok_list (T : Tx P K mg) : FnOk P w K mg base CX0 3 T.a__law_list T.fd__law_list ["_law_pot", "_law_names"] (spP FList) := by
  have G__law_of := okP_of (w := w) (base := base) T
  refine Dw.okP T.F__law_list sc__law_list (by decide) (fun c ds Kk h => ?_) (fun cdv A outer s H E p c ds Kk hr h => ⟨_, _, (pss_cons (ps_par (i := 2) (j := 3) (by rfl) sc__law_list.nd rfl rfl (by decide) rfl rfl (pa_cons (pe_call G__law_of (hr.mono (by first | decide | omega)) (by rfl) T.m__law_of T.F__law_of.kp T.b__law_of .nil pass0 (pa_cons (pv 0) (pa_cons (pv 1) pa_nil))) (pa_cons (pe_call G__law_of (hr.mono (by first | decide | omega)) (by rfl) T.m__law_of T.F__law_of.kp T.b__law_of .nil pass0 (pa_cons (pv 0) (pa_cons (pe_fz (pe_lst (pa_cons pe_int (pa_cons pe_int (pa_cons pe_int (pa_cons pe_int pa_nil)))))) pa_nil))) pa_nil)) (by rfl))
      (pss_cons (ps_set (i := 4) sc__law_list.nd rfl (Or.inl rfl) (pe_call G__law_of (hr.mono (by first | decide | omega)) (by rfl) T.m__law_of T.F__law_of.kp T.b__law_of .nil pass0 (pa_cons (pv 0) (pa_cons (pe_fz (pe_lst (pa_cons pe_non (pa_cons (pv 3) (pa_cons (pe_op dAddX (pv 3) pe_int) (pa_cons (pe_op dAddX (pv 3) pe_int) pa_nil)))))) pa_nil))))
      (pss_one (ps_ret (pe_tup (pa_cons pe_str (pa_cons (pv 2) (pa_cons (pv 3) (pa_cons (pv 4) pa_nil))))))))), inferInstance, ?_⟩)
  · obtain ⟨us, rfl, _⟩ := h
    rfl
  obtain ⟨us, rfl, nm, hc, k⟩ := h
  walk_at "d"
  refine ⟨⟨_, _, rfl, rfl⟩, _, rfl, by omega, by simp [nm.1], by rw [List.length_map]; have := nm.2.1; omega, fun d hd => ?_⟩
  obtain ⟨u, hu, rfl⟩ := List.mem_map.mp hd
  refine ⟨⟨_, _, rfl, rfl⟩, _, rfl, by omega, by simp, by simp, fun d1 hd1 => ?_⟩
  obtain ⟨lo, rfl, l0, l1⟩ : ∃ lo : Int, d1 = .int lo ∧ 0 ≤ lo ∧ lo ≤ 2 := by
    simp only [List.mem_cons, List.not_mem_nil, or_false] at hd1
    rcases hd1 with rfl | rfl | rfl | rfl <;> exact ⟨_, rfl, by decide, by decide⟩
  refine ⟨⟨_, _, rfl, rfl⟩, ?_⟩
  dsimp only
  refine ⟨_, rfl, by omega, by simp, by simp, fun d2 hd2 => ?_⟩
  simp only [List.mem_cons, List.not_mem_nil, or_false] at hd2
  rcases hd2 with rfl | rfl | rfl | rfl
  · exact k (.list u lo none) _ ⟨nm.2.2 u hu, l0, by omega, trivial⟩ (by omega)
  · exact k (.list u lo (some lo)) _ ⟨nm.2.2 u hu, l0, by omega, Int.le_refl _, by omega⟩ (by omega)
  · exact k (.list u lo (some (lo + 1))) _ ⟨nm.2.2 u hu, l0, by omega, by omega, by omega⟩ (by omega)
  · exact k (.list u lo (some (lo + 2))) _ ⟨nm.2.2 u hu, l0, by omega, by omega, by omega⟩ (by omega)
def FRec : DP := fun c ds Kk => ∃ us fl : List Str, ds = [.list (us.map .str), .list (fl.map .str)] ∧ Nms us ∧ areNames fl = true ∧ fl.length ≤ 6 ∧ c < 900000 ∧ ∀ (op : Bool) (rows : List (Str × Str × Bool)) (c' : Int), gForm (.record op rows) → c' ≤ c + 40 → Kk (encF (.record op rows)) c'
theorem ok_record (T : Tx P K mg) : FnOk P w K mg base CX0 3 T.a__law_record T.fd__law_record ["_law_pot", "_law_names", "_law_fields"] (spP FRec) := by
  have G__law_of := okP_of (w := w) (base := base) T
  have G__law_take := okP_take (w := w) (base := base) T
  have G__law_unlike := ok_unl (w := w) (base := base) T
  refine Dw.okP T.F__law_record sc__law_record (by decide) (fun c ds Kk h => ?_) (fun cdv A outer s H E p c ds Kk hr h => ⟨_, _, (pss_cons (ps_par (i := 3) (j := 4) (by rfl) sc__law_record.nd rfl rfl (by decide) rfl rfl (pa_cons (pe_cmpR dEq (pe_call G__law_take (hr.mono (by first | decide | omega)) (by rfl) T.m__law_take T.F__law_take.kp T.b__law_take .nil pass0 (pa_cons (pv 0) (pa_cons pe_int pa_nil))) pe_int (nomark _)) (pa_cons (pe_lst pa_nil) pa_nil)) (by rfl))
      (pss_cons (ps_for PassesOwn.never rfl (pi_list (pe_call G__law_unlike (hr.mono (by first | decide | omega)) (by rfl) T.m__law_unlike T.F__law_unlike.kp T.b__law_unlike .nil pass0 (pa_cons (pv 0) (pa_cons (pv 2) (pa_cons (pe_callB dLen (by rfl) T.n_len PyProof.Rows.Boot.«len» (pa_cons (pv 2) pa_nil)) pa_nil))))) (pg_name (i := 5) sc__law_record.nd rfl (Or.inl rfl)) (pss_cons (ps_set (i := 6) sc__law_record.nd rfl (Or.inl rfl) (pe_call G__law_take (hr.mono (by first | decide | omega)) (by rfl) T.m__law_take T.F__law_take.kp T.b__law_take .nil pass0 (pa_cons (pv 0) (pa_cons pe_int pa_nil))))
      (pss_one (ps_if (pt_cmpR dGt (pv 6) pe_int (nomark _)) (pss_one (ps_expr (pe_bm PySem.F.plainAttrs_list PySem.F.slot_list_append PySem.F.type_list_append mt_append (pv 4) (pa_cons (pe_tup (pa_cons (pv 5) (pa_cons (pe_call G__law_of (hr.mono (by first | decide | omega)) (by rfl) T.m__law_of T.F__law_of.kp T.b__law_of .nil pass0 (pa_cons (pv 0) (pa_cons (pv 1) pa_nil))) (pa_cons (pe_cmpR dGt (pv 6) pe_int (nomark _)) pa_nil)))) pa_nil)))) pss_nil))))
      (pss_one (ps_ret (pe_tup (pa_cons pe_str (pa_cons (pv 3) (pa_cons (pe_callTy dTuple (by rfl) T.n_tuple PyProof.Rows.Boot.«tuple» (pa_cons (pe_fz (pv 4)) pa_nil)) pa_nil)))))))), inferInstance, ?_⟩)
  · obtain ⟨us, fl, rfl, _⟩ := h
    rfl
  obtain ⟨us, fl, rfl, nm, nf, lf, hc, k⟩ := h
  walk_at "d"
  refine ⟨⟨_, _, rfl, rfl⟩, 2, rfl, by omega, by decide, by decide, fun r hr => ?_⟩
  dsimp only
  refine ⟨⟨_, _, rfl, rfl⟩, fl.map .str, fl.length, by rw [List.length_map], by omega, by rw [List.length_map]; omega, fun ys rest pm ln => ?_⟩
  obtain ⟨ws, wr, rfl, rfl, pm2⟩ := perm_strs pm
  rw [List.length_map, List.length_map, Nat.min_self] at ln
  have nw := names_sub pm2 nf
  dsimp only
  refine ⟨fun i ρ => ∃ (rows : List (Str × Str × Bool)) (c' : Int) (x5 x6 : Option DV), ρ = [some (.pot p c'), some (.d (.list (us.map .str))), some (.d (.list (fl.map .str))), some (.d (.bool (decide ((r : Int) = 0)))), some (.l (rows.map encRec)), x5, x6] ∧ c' ≤ c + 1 + fl.length + 2 * i ∧ (rows.map (·.1)).Sublist (ws.take i) ∧ ∀ q ∈ rows, isNmS q.2.1 = true, ⟨[], _, none, none, rfl, by rw [List.length_map, Nat.min_self]; omega, by simp, by simp⟩, ?_, ?_⟩
  · rintro i y ρ hy ⟨rows, c', x5, x6, rfl, hc2, hsub, hk⟩
    obtain ⟨z, hz, rfl⟩ := map_strs hy
    have hi : i < ws.length := (List.getElem?_eq_some_iff.mp hz).1
    have hrl : rows.length ≤ i := by
      have := hsub.length_le
      rw [List.length_map, List.length_take] at this
      omega
    have e1 : ws.take (i + 1) = ws.take i ++ [z] := take_succ hz
    walk_at "d"
    refine ⟨⟨_, _, rfl, rfl⟩, 4, rfl, by omega, by decide, by decide, fun x hx => ?_⟩
    dsimp only
    by_cases h0 : 0 < (x : Int)
    · rw [if_pos (decide_eq_true h0)]
      refine ⟨⟨_, _, rfl, rfl⟩, _, rfl, by omega, by simp [nm.1], by rw [List.length_map]; have := nm.2.1; omega, fun d hd => ?_⟩
      obtain ⟨u, hu, rfl⟩ := List.mem_map.mp hd
      refine ⟨by rw [List.length_map]; omega, rows ++ [(z, u, decide (1 < (x : Int)))], c' + 1 + 1, some (.d (.str z)), some (.d (.int x)), by rw [List.map_append]; rfl, by omega, ?_, ?_⟩
      · rw [e1, List.map_append]
        exact hsub.append (List.Sublist.refl _)
      · intro q hq
        rcases List.mem_append.mp hq with hq | hq
        · exact hk q hq
        · rw [List.mem_singleton.mp hq]
          exact nm.2.2 u hu
    · rw [if_neg (by rw [decide_eq_true_eq]; exact h0)]
      refine ⟨rows, c' + 1, some (.d (.str z)), some (.d (.int x)), rfl, by omega, ?_, hk⟩
      rw [e1]
      exact hsub.trans (List.sublist_append_left _ _)
  · rintro ρ ⟨rows, c', x5, x6, rfl, hc2, hsub, hk⟩
    rw [List.length_map] at hsub hc2
    rw [List.take_length] at hsub
    refine ⟨c', rfl, k (decide ((r : Int) = 0)) rows c' ⟨names_sublist hsub nw, ?_, hk⟩ (by omega)⟩
    have := hsub.length_le
    rw [List.length_map] at this
    omega
end
end Bk
end
section
--@@ genb
set_option Elab.async false
set_option linter.all false
set_option maxRecDepth 100000
set_option maxHeartbeats 4000000
set_option pp.maxSteps 3000
set_option synthInstance.maxHeartbeats 4000000
set_option synthInstance.maxSize 100000
namespace Bk
open PySem PySem.Spec PyProof.Rows L2 Tg Dw En
local macro_rules | `(tactic| walk_at "d") => `(tactic| simp (maxSteps := 4000000) only [DVar, DCon, DLock, DLockV, DCons, DNil, DOp, DOpN, DUn, DTup, DLst, DCB, DCBN, DMt, DMtN, isB, DB, DNot, DAnd, DOr, DAndV, DOrV, DNotV, DIf, DChain, DNext, DSeq, DIfS, DRet, DDrop, DSet, DSetN, GName, GNil, GCons, GTup, DAsgG, DPar, isL, isT, isS, isI, IList, ITup, IStr, IRng1, IRng2, DFor, DLc, DYes, RInt, RIntC, RStr, RCatS, eqC, REq, RNe, isNone, RIsN, RNotN, RInS, RIx, RSlS, ONone, OSome, DSl, DSlN, on1, on2, RLen, RIntOf, RIntS, RStrI, RAbs, RMin2, RMax2, RAll, RAny, NList, RTuple, RReprD, MStarts, MFind, MJoin, tyB, DIs, DIs3, DApp, DCall, DCallX, DRaise, startD, RAdd, RLe, RInX, NCat, RMulX, NSlL, DFzS, DAug, DCallP, startP, wipeD, IItems, DDGet, DDIn, NSortedD, NListD, MDict, DCBM, DParND, DParNN, DPar3N, DPar3, GPut, DPeek, DNe0, DPop, DLenO, DPar3M, DRepl, DDisp1, DNone1, DLam, kD, DMatch, DArms, NSplit, NSortedS, DStar, DDc, flD, inF, eqF, DPeek1, restS, pickS, DLenSet, DSortSet, RDeq, RDne, RDin, DLc2, IEnAt, IKeys, IEnum, IZip, MStarts1, DStarC, DStarS, isStr, ISeq, RCatT, RSlT, RSum, MJoin2, NRep, DParDN, DExt, DListItems, GLst, DPar3DNN, DPutNew, List.length_cons, List.length_nil, List.map_cons, List.map_nil, List.replicate_succ, List.replicate_zero, List.cons_append, List.nil_append, List.getElem?_cons_zero, List.getElem?_cons_succ, List.set_cons_zero, List.set_cons_succ, Nat.reduceAdd, Nat.reduceSub, Nat.zero_add, Bool.not_true, Bool.not_false, Bool.false_eq_true, if_true, if_false, reduceIte, reduceCtorEq, beq_self_eq_true, Bool.true_or, Bool.or_true, Bool.false_or, Bool.or_false, String.reduceBEq, Option.some.injEq, false_and, and_false, exists_const, true_and, and_true, PyData.str.injEq, exists_eq', exists_eq_left', Nat.reduceLeDiff, DV.l.injEq, DV.m.injEq, DV.pot.injEq, List.all_cons, List.all_nil, List.any_cons, List.any_nil, Bool.and_self, Bool.and_true, Bool.true_and, List.zipWith_cons_cons, List.zipWith_nil_right])
theorem nm_strOk {u : Str} (h : isNmS u = true) : PyData.strOk u = true := by
  unfold isNmS at h
  rw [Bool.and_eq_true, List.all_eq_true] at h
  unfold PyData.strOk
  rw [← Array.all_toList, List.all_eq_true]
  intro x hx
  have := h.2 x hx
  unfold low at this
  rw [Bool.and_eq_true, decide_eq_true_eq, decide_eq_true_eq] at this
  exact decide_eq_true (by omega)
def keepR (fs : Forms) (fd : Str) : PyData → Bool
  | .str u => match lookF u fs with
    | some (.record _ rows) => !(rows.map (·.1)).contains fd
    | _ => false
  | _ => false
section
variable {P : Program} {w : World} {K : PySem.W.Frag} {mg : Str → Option Value} {base : Heap}
def FTag : DP := fun c ds Kk => ∃ (fs : Forms) (us : List Str), ds = [encD fs, .list (us.map .str)] ∧ Nms us ∧ (∀ u ∈ us, ∃ op rows, lookF u fs = some (.record op rows) ∧ rows.length ≤ 6) ∧ c < 900000 ∧ ∀ (f : Form) (c' : Int), gForm f → c' ≤ c + 20 → Kk (encF f) c'
theorem ok_tagged (T : Tx P K mg) : FnOk P w K mg base CX0 3 T.a__law_tagged T.fd__law_tagged ["_law_pot", "_law_lore_here", "_law_records"] (spP FTag) := by
  have G__law_of := okP_of (w := w) (base := base) T
  have G__law_take := okP_take (w := w) (base := base) T
  have G__law_unlike := ok_unl (w := w) (base := base) T
  refine Dw.okP T.F__law_tagged sc__law_tagged (by decide) (fun c ds Kk h => ?_) (fun cdv A outer s H E p c ds Kk hr h => ⟨_, _, (pss_cons (ps_set (i := 3) sc__law_tagged.nd rfl (Or.inr rfl) (pe_call G__law_of (hr.mono (by first | decide | omega)) (by rfl) T.m__law_of T.F__law_of.kp T.b__law_of .nil pass0 (pa_cons (pv 0) (pa_cons (pe_fz (pe_lst (pa_cons pe_str (pa_cons pe_str (pa_cons pe_str pa_nil))))) pa_nil))))
      (pss_cons (ps_set (i := 4) sc__law_tagged.nd rfl (Or.inr rfl) (pe_fz (pe_lc (own := [("_law_name", 6)]) (g := gName 6) (by rfl) sc__law_tagged.nd (pi_list (pv 2)) (blkOk_by (own := [("_law_name", 6)]) (N := ["_law_pot", "_law_lore_here", "_law_records", "_law_field", "_law_some", "_law_words", "_law_name", "_law_word", "_law_row"]) (sc := defScope s__law_tagged) (by decide +kernel)) (fun _ _ _ _ _ => (pg_name (i := 6) sc__law_tagged.nd rfl (Or.inl rfl))) (fun _ _ _ _ _ => (pts_one (pt_cmpR dNotInX (pv 3) (pe_fz (pe_lc (own := [("_law_row", 8)]) (g := gName 8) (tt := tYes) (by rfl) sc__law_tagged.nd (pi_tupK (K := K) rfl (pe_ix dIx (pe_dget (hu_of hr) (pv 1) (pv 6) (fun _ _ => rfl)) pe_int (fun _ _ => rfl))) (blkOk_by (own := [("_law_row", 8)]) (N := ["_law_pot", "_law_lore_here", "_law_records", "_law_field", "_law_some", "_law_words", "_law_name", "_law_word", "_law_row"]) (by rfl)) (fun _ _ _ _ _ => (pg_name (i := 8) sc__law_tagged.nd rfl (Or.inl rfl))) (fun _ _ _ _ _ => pts_nil) (fun _ _ _ _ _ => (pe_ix dIx (pv 8) pe_int (fun _ _ => rfl))))) (by rfl)))) (fun _ _ _ _ _ => (pv 6)))))
      (pss_cons (ps_if (pt_cmpR (dEqD (h64 hr)) (pv 4) (pe_fz (pe_lst pa_nil)) (nomark _)) (pss_one (ps_asg (pe_tup (pa_cons pe_str (pa_cons (pv 2) pa_nil))) (pg_tup (n := 2) rfl (pgs_cons (pg_name (i := 3) sc__law_tagged.nd rfl (Or.inr rfl)) (pgs_cons (pg_name (i := 4) sc__law_tagged.nd rfl (Or.inr rfl)) pgs_nil))))) pss_nil)
      (pss_cons (ps_set (i := 5) sc__law_tagged.nd rfl (Or.inl rfl) (pe_call G__law_unlike (hr.mono (by first | decide | omega)) (by rfl) T.m__law_unlike T.F__law_unlike.kp T.b__law_unlike .nil pass0 (pa_cons (pv 0) (pa_cons (pe_fz (pe_lst (pa_cons pe_str (pa_cons pe_str (pa_cons pe_str pa_nil))))) (pa_cons (pe_op dAddX pe_int (pe_call G__law_take (hr.mono (by first | decide | omega)) (by rfl) T.m__law_take T.F__law_take.kp T.b__law_take .nil pass0 (pa_cons (pv 0) (pa_cons pe_int pa_nil)))) pa_nil)))))
      (pss_one (ps_ret (pe_tup (pa_cons pe_str (pa_cons (pv 3) (pa_cons (pe_callTy dTuple (by rfl) T.n_tuple PyProof.Rows.Boot.«tuple» (pa_cons (pe_fz (pe_lc (own := [("_law_word", 7)]) (g := gName 7) (tt := tYes) (by rfl) sc__law_tagged.nd (pi_list (pv 5)) (blkOk_by (own := [("_law_word", 7)]) (N := ["_law_pot", "_law_lore_here", "_law_records", "_law_field", "_law_some", "_law_words", "_law_name", "_law_word", "_law_row"]) (sc := defScope s__law_tagged) (by decide +kernel)) (fun _ _ _ _ _ => (pg_name (i := 7) sc__law_tagged.nd rfl (Or.inl rfl))) (fun _ _ _ _ _ => pts_nil) (fun _ _ _ _ _ => (pe_tup (pa_cons (pv 7) (pa_cons (pe_call G__law_of (hr.mono (by first | decide | omega)) (by rfl) T.m__law_of T.F__law_of.kp T.b__law_of .nil pass0 (pa_cons (pv 0) (pa_cons (pv 4) pa_nil))) pa_nil)))))) pa_nil)) pa_nil)))))))))), inferInstance, ?_⟩)
  · obtain ⟨fs, us, rfl, _⟩ := h
    rfl
  obtain ⟨fs, us, rfl, nm, hrec, hc, k⟩ := h
  generalize hW : DSeq (DSet 5 _) _ = UW
  have tail : ∀ (fd : Str) (sm : List Str) (c' : Int), isNmS fd = true → Nms sm → c' ≤ c + 1 → UW { nx := fun ρ => ∃ c', ρ[0]? = some (some (.pot p c')) ∧ Kk .none c', rt := fun d ρ => ∃ c', ρ[0]? = some (some (.pot p c')) ∧ Kk d c' } [some (.pot p c'), some (.d (encD fs)), some (.d (.list (us.map .str))), some (.d (.str fd)), some (.d (.list (sm.map .str))), none, none, none, none] := by
    intro fd sm c' hfd nsm hc'
    rw [← hW]
    walk_at "d"
    refine ⟨⟨_, _, rfl, rfl⟩, ⟨_, _, rfl, rfl⟩, 3, rfl, by omega, by decide, by decide, fun y hy => ?_⟩
    dsimp only
    refine ⟨_, 1 + y, by rw [show (1 : Int) + (y : Int) = ((1 + y : Nat) : Int) by omega], by omega, by simp, fun ys rest pm ln => ?_⟩
    obtain ⟨ws, wr, rfl, rfl, pm2⟩ := perm_strs (us := [Str.ofString "one", Str.ofString "two", Str.ofString "b"]) pm
    have nw := names_sub pm2 (by decide +kernel)
    rw [List.length_map] at ln
    simp only [List.length_cons, List.length_nil] at ln ⊢
    have lw : 1 ≤ ws.length ∧ ws.length ≤ 3 := by omega
    refine ⟨by rw [List.length_map]; omega, rfl, fun i acc ρ => ∃ (rows : List (Str × Str)) (c2 : Int), acc = rows.map (fun r => .tuple [.str r.1, .str r.2]) ∧ ρ = [some (.pot p c2), some (.d (encD fs)), some (.d (.list (us.map .str))), some (.d (.str fd)), some (.d (.list (sm.map .str))), some (.d (.list (ws.map .str))), none, none, none] ∧ c2 ≤ c + 10 + i ∧ rows.map (·.1) = ws.take i ∧ ∀ r ∈ rows, isNmS r.2 = true, ⟨[], _, rfl, rfl, by omega, rfl, by simp⟩, ?_, ?_⟩
    · rintro i x acc ρ hx ⟨rows, c2, rfl, rfl, hc2, hr1, hr2⟩
      obtain ⟨z, hz, rfl⟩ := map_strs hx
      have hi : i < ws.length := (List.getElem?_eq_some_iff.mp hz).1
      walk_at "d"
      refine ⟨⟨_, _, rfl, rfl⟩, _, rfl, by omega, by simp [nsm.1], by rw [List.length_map]; have := nsm.2.1; omega, fun d hd => ?_⟩
      obtain ⟨u, hu, rfl⟩ := List.mem_map.mp hd
      refine ⟨rows ++ [(z, u)], c2 + 1, by rw [List.map_append]; rfl, rfl, by omega, by rw [List.map_append, hr1, take_succ hz]; rfl, ?_⟩
      intro q hq
      rcases List.mem_append.mp hq with hq | hq
      · exact hr2 q hq
      · rw [List.mem_singleton.mp hq]
        exact nsm.2.2 u hu
    · rintro acc ρ ⟨rows, c2, rfl, rfl, hc2, hr1, hr2⟩
      rw [List.length_map] at hc2 hr1
      rw [List.take_length] at hr1
      walk_at "d"
      have lr : rows.length = ws.length := by rw [← hr1, List.length_map]
      exact k (.tagged fd rows) c2 ⟨hfd, fun z => by rw [z] at lr; simp at lr; omega, by omega, by rw [hr1]; exact nw, hr2⟩ (by omega)
  walk_at "d"
  refine ⟨⟨_, _, rfl, rfl⟩, _, rfl, by omega, by simp, by simp, fun d hd => ?_⟩
  obtain ⟨fd, rfl, hfd⟩ : ∃ fd, d = .str fd ∧ isNmS fd = true := by
    simp only [List.mem_cons, List.not_mem_nil, or_false] at hd
    rcases hd with rfl | rfl | rfl <;> exact ⟨_, rfl, by decide +kernel⟩
  refine lc_filter id (keepR fs fd) (fun j y hy Q Qn hQ hN => ?_) ?_ (by rw [List.length_map]; have := nm.2.1; omega)
  · obtain ⟨u, hu, rfl⟩ := map_strs hy
    obtain ⟨op, rows, hf, lr⟩ := hrec u (List.mem_of_getElem? hu)
    walk_at "d"
    refine ⟨encP fs, rfl, encF (.record op rows), by rw [look_enc, hf]; rfl, ?_⟩
    dsimp only [encF]
    refine ⟨_, at_nat (i := 2) rfl, ?_⟩
    dsimp only
    refine lc_map hd1 (fun j y hy Q' hQ' => ?_) ?_ (by rw [List.length_map]; omega)
    · obtain ⟨r, hr2, rfl⟩ := map_at hy
      walk_at "d"
      exact ⟨.str r.1, at_nat (i := 0) rfl, hQ' _ rfl⟩
    · rw [show (rows.map fun r => PyData.tuple [.str r.1, .str r.2.1, .bool r.2.2]).map hd1 = (rows.map (·.1)).map .str by rw [List.map_map, List.map_map]; rfl]
      walk_at "d"
      refine ⟨fl_strs _, ?_⟩
      have e := in_strs fd (rows.map (·.1))
      simp only [inF, eqF] at e
      rw [e]
      have ek : keepR fs fd (.str u) = !(rows.map (·.1)).contains fd := by unfold keepR; simp only [hf]
      by_cases hin : fd ∈ rows.map (·.1)
      · rw [decide_eq_true hin, if_neg (by decide)]
        refine hN ?_ _ rfl
        rw [ek, List.contains_iff_mem.mpr hin]
        rfl
      · rw [decide_eq_false hin, if_pos (by decide)]
        refine hQ ?_ _ rfl
        rw [ek, Bool.eq_false_iff.mpr (fun q => hin (List.contains_iff_mem.mp q))]
        rfl
  · rw [List.map_id, List.filter_map]
    generalize hsm : us.filter (keepR fs fd ∘ PyData.str) = sm
    have smem : ∀ u ∈ sm, isNmS u = true := fun u hu => by
      rw [← hsm] at hu
      exact nm.2.2 u (List.mem_filter.mp hu).1
    have slen : sm.length ≤ 100 := by
      rw [← hsm]
      exact Nat.le_trans (List.length_filter_le _ _) nm.2.1
    walk_at "d"
    refine ⟨okE_strs fun u hu => nm_strOk (smem u hu), okE_nil, ?_⟩
    rw [eqv_nil]
    by_cases h0 : sm = []
    · rw [if_pos (decide_eq_true h0)]
      exact tail (Str.ofString "t") us (c + 1) (by decide +kernel) nm (Int.le_refl _)
    · rw [if_neg (by rw [decide_eq_true_eq]; exact h0)]
      exact tail fd sm (c + 1) hfd ⟨h0, slen, smem⟩ (Int.le_refl _)
end
end Bk
end
section
--@@ genb
set_option Elab.async false
set_option linter.all false
set_option maxRecDepth 100000
set_option maxHeartbeats 4000000
set_option pp.maxSteps 3000
set_option synthInstance.maxHeartbeats 4000000
set_option synthInstance.maxSize 100000
namespace Bk
open PySem PySem.Spec PyProof.Rows L2 Tg Dw En
local macro_rules | `(tactic| walk_at "d") => `(tactic| simp (maxSteps := 4000000) only [DVar, DCon, DLock, DLockV, DCons, DNil, DOp, DOpN, DUn, DTup, DLst, DCB, DCBN, DMt, DMtN, isB, DB, DNot, DAnd, DOr, DAndV, DOrV, DNotV, DIf, DChain, DNext, DSeq, DIfS, DRet, DDrop, DSet, DSetN, GName, GNil, GCons, GTup, DAsgG, DPar, isL, isT, isS, isI, IList, ITup, IStr, IRng1, IRng2, DFor, DLc, DYes, RInt, RIntC, RStr, RCatS, eqC, REq, RNe, isNone, RIsN, RNotN, RInS, RIx, RSlS, ONone, OSome, DSl, DSlN, on1, on2, RLen, RIntOf, RIntS, RStrI, RAbs, RMin2, RMax2, RAll, RAny, NList, RTuple, RReprD, MStarts, MFind, MJoin, tyB, DIs, DIs3, DApp, DCall, DCallX, DRaise, startD, RAdd, RLe, RInX, NCat, RMulX, NSlL, DFzS, DAug, DCallP, startP, wipeD, IItems, DDGet, DDIn, NSortedD, NListD, MDict, DCBM, DParND, DParNN, DPar3N, DPar3, GPut, DPeek, DNe0, DPop, DLenO, DPar3M, DRepl, DDisp1, DNone1, DLam, kD, DMatch, DArms, NSplit, NSortedS, DStar, DDc, flD, inF, eqF, DPeek1, restS, pickS, DLenSet, DSortSet, RDeq, RDne, RDin, DLc2, IEnAt, IKeys, IEnum, IZip, MStarts1, DStarC, DStarS, isStr, ISeq, RCatT, RSlT, RSum, MJoin2, NRep, DParDN, DExt, DListItems, GLst, DPar3DNN, DPutNew, List.length_cons, List.length_nil, List.map_cons, List.map_nil, List.replicate_succ, List.replicate_zero, List.cons_append, List.nil_append, List.getElem?_cons_zero, List.getElem?_cons_succ, List.set_cons_zero, List.set_cons_succ, Nat.reduceAdd, Nat.reduceSub, Nat.zero_add, Bool.not_true, Bool.not_false, Bool.false_eq_true, if_true, if_false, reduceIte, reduceCtorEq, beq_self_eq_true, Bool.true_or, Bool.or_true, Bool.false_or, Bool.or_false, String.reduceBEq, Option.some.injEq, false_and, and_false, exists_const, true_and, and_true, PyData.str.injEq, exists_eq', exists_eq_left', Nat.reduceLeDiff, DV.l.injEq, DV.m.injEq, DV.pot.injEq, List.all_cons, List.all_nil, List.any_cons, List.any_nil, Bool.and_self, Bool.and_true, Bool.true_and, List.zipWith_cons_cons, List.zipWith_nil_right])
theorem at_0 {α : Type} (a : α) (l : List α) : atI (a :: l) 0 = some a := at_nat (i := 0) rfl
theorem at_1 {α : Type} (a b : α) (l : List α) : atI (a :: b :: l) 1 = some b := at_nat (i := 1) rfl
theorem at_2 {α : Type} (a b c : α) (l : List α) : atI (a :: b :: c :: l) 2 = some c := at_nat (i := 2) rfl
theorem at_3 {α : Type} (a b c d : α) (l : List α) : atI (a :: b :: c :: d :: l) 3 = some d := at_nat (i := 3) rfl
def tagL : PyData → PyData
  | .tuple [.str a, .str b] => .str (joinS [Str.ofString "", Str.ofString "", a, b])
  | _ => .none
theorem nm_len {x : Str} (h : isNmS x = true) : x.length ≤ 8 := by
  unfold isNmS at h
  rw [Bool.and_eq_true, Bool.and_eq_true, decide_eq_true_eq, decide_eq_true_eq] at h
  exact h.1.2
theorem numS_len {i : Int} (h0 : -1 ≤ i) (h1 : i ≤ 5) : (numS i).length ≤ 2 ∧ i.natAbs.log2 < 1920 := by
  have : i = -1 ∨ i = 0 ∨ i = 1 ∨ i = 2 ∨ i = 3 ∨ i = 4 ∨ i = 5 := by omega
  rcases this with rfl | rfl | rfl | rfl | rfl | rfl | rfl <;> exact ⟨by decide +kernel, by decide +kernel⟩
theorem sum_len1 : ∀ {ws : List Str}, (∀ x ∈ ws, isNmS x = true) → (ws.map (·.length)).sum ≤ ws.length * 8
  | [], _ => by simp
  | a :: r, h => by
    rw [List.map_cons, List.sum_cons, List.length_cons, Nat.succ_mul]
    have := sum_len1 (ws := r) fun x hx => h x (List.mem_cons_of_mem _ hx)
    have := nm_len (h a List.mem_cons_self)
    omega
theorem sum_len {ws : List Str} (h : areNames ws = true) : (ws.map (·.length)).sum ≤ ws.length * 8 := by
  unfold areNames at h
  rw [Bool.and_eq_true, List.all_eq_true] at h
  exact sum_len1 h.1
section
variable {P : Program} {w : World} {K : PySem.W.Frag} {mg : Str → Option Value} {base : Heap}
def FLines : DF := fun ds Kk => ∃ (x : Str) (f : Form), ds = [.str x, encF f] ∧ isNmS x = true ∧ gForm f ∧ Kk (.list ((kindLines x f).map .str))
theorem ok_lines (T : Tx P K mg) : FnOk P w K mg base CX0 2 T.a__law_kind_lines T.fd__law_kind_lines ["_law_name", "_law_form"] (spD FLines) := by
  refine Dw.okD T.F__law_kind_lines sc__law_kind_lines (fun ds Kk h => ?_) (fun cdv A outer s H E ds Kk hr h => ⟨_, _, (pss_cons (ps_if (pt_cmpR dEq (pe_ix dIx (pv 1) pe_int (fun _ _ => rfl)) pe_str (nomark _)) (pss_one (ps_ret (pe_fz (pe_lst (pa_cons (pe_bm PySem.F.plainAttrs_str PySem.F.slot_str_join PySem.F.type_str_join mJoin2 pe_str (pa_cons (pe_fz (pe_lst (pa_cons pe_str (pa_cons (pv 0) (pa_cons (pe_callTy dStrI (by rfl) T.n_str PyProof.Rows.Boot.«str» (pa_cons (pe_ix dIx (pv 1) pe_int (fun _ _ => rfl)) pa_nil)) (pa_cons (pe_callTy dStrI (by rfl) T.n_str PyProof.Rows.Boot.«str» (pa_cons (pe_ix dIx (pv 1) pe_int (fun _ _ => rfl)) pa_nil)) pa_nil)))))) pa_nil)) pa_nil))))) pss_nil)
      (pss_cons (ps_if (pt_cmpR dInX (pe_ix dIx (pv 1) pe_int (fun _ _ => rfl)) (pe_tup (pa_cons pe_str (pa_cons pe_str pa_nil))) (by rfl)) (pss_one (ps_ret (pe_fz (pe_lst (pa_cons (pe_bm PySem.F.plainAttrs_str PySem.F.slot_str_join PySem.F.type_str_join mJoin2 pe_str (pa_cons (pe_op dCatT (pe_tup (pa_cons (pe_ix dIx (pv 1) pe_int (fun _ _ => rfl)) (pa_cons (pv 0) pa_nil))) (pe_ix dIx (pv 1) pe_int (fun _ _ => rfl))) pa_nil)) pa_nil))))) pss_nil)
      (pss_cons (ps_if (pt_cmpR dEq (pe_ix dIx (pv 1) pe_int (fun _ _ => rfl)) pe_str (nomark _)) (pss_one (ps_ret (pe_fz (pe_lst (pa_cons (pe_bm PySem.F.plainAttrs_str PySem.F.slot_str_join PySem.F.type_str_join mJoin2 pe_str (pa_cons (pe_fz (pe_lst (pa_cons pe_str (pa_cons (pv 0) (pa_cons (pe_ix dIx (pv 1) pe_int (fun _ _ => rfl)) (pa_cons (pe_callTy dStrI (by rfl) T.n_str PyProof.Rows.Boot.«str» (pa_cons (pe_ix dIx (pv 1) pe_int (fun _ _ => rfl)) pa_nil)) (pa_cons (pe_ifExp (pt_cmpR dIsN (pe_ix dIx (pv 1) pe_int (fun _ _ => rfl)) pe_non (nomark _)) pe_str (pe_callTy dStrI (by rfl) T.n_str PyProof.Rows.Boot.«str» (pa_cons (pe_ix dIx (pv 1) pe_int (fun _ _ => rfl)) pa_nil))) pa_nil))))))) pa_nil)) pa_nil))))) pss_nil)
      (pss_cons (ps_if (pt_cmpR dEq (pe_ix dIx (pv 1) pe_int (fun _ _ => rfl)) pe_str (nomark _)) (pss_cons (ps_set (i := 2) sc__law_kind_lines.nd rfl (Or.inl rfl) (pe_lst (pa_cons (pe_bm PySem.F.plainAttrs_str PySem.F.slot_str_join PySem.F.type_str_join mJoin2 pe_str (pa_cons (pe_fz (pe_op dCat (pe_fz (pe_lst (pa_cons pe_str (pa_cons (pv 0) pa_nil)))) (pe_fz (pe_op dRep (pe_fz (pe_lst (pa_cons pe_str pa_nil))) (pe_callTy dIntOf (by rfl) T.n_int PyProof.Rows.Boot.«int» (pa_cons (pe_ix dIx (pv 1) pe_int (fun _ _ => rfl)) pa_nil)))))) pa_nil)) pa_nil)))
      (pss_cons (ps_for PassesOwn.never rfl (pi_tup (pe_ix dIx (pv 1) pe_int (fun _ _ => rfl))) (pg_tup (n := 3) rfl (pgs_cons (pg_name (i := 3) sc__law_kind_lines.nd rfl (Or.inl rfl)) (pgs_cons (pg_name (i := 4) sc__law_kind_lines.nd rfl (Or.inl rfl)) (pgs_cons (pg_name (i := 5) sc__law_kind_lines.nd rfl (Or.inl rfl)) pgs_nil)))) (pss_one (ps_expr (pe_bm PySem.F.plainAttrs_list PySem.F.slot_list_append PySem.F.type_list_append mt_append (pv 2) (pa_cons (pe_bm PySem.F.plainAttrs_str PySem.F.slot_str_join PySem.F.type_str_join mJoin2 pe_str (pa_cons (pe_fz (pe_op dCat (pe_fz (pe_lst (pa_cons pe_str (pa_cons pe_str (pa_cons (pv 3) (pa_cons (pv 4) pa_nil)))))) (pe_fz (pe_op dRep (pe_fz (pe_lst (pa_cons pe_str pa_nil))) (pe_callTy dIntOf (by rfl) T.n_int PyProof.Rows.Boot.«int» (pa_cons (pe_not (pv 5)) pa_nil)))))) pa_nil)) pa_nil)))))
      (pss_one (ps_ret (pe_fz (pv 2)))))) pss_nil)
      (pss_cons (ps_if (pt_cmpR dEq (pe_ix dIx (pv 1) pe_int (fun _ _ => rfl)) pe_str (nomark _)) (pss_one (ps_ret (pe_fz (pe_op dCat (pe_fz (pe_lst (pa_cons (pe_bm PySem.F.plainAttrs_str PySem.F.slot_str_join PySem.F.type_str_join mJoin2 pe_str (pa_cons (pe_fz (pe_lst (pa_cons (pe_ix dIx (pv 1) pe_int (fun _ _ => rfl)) (pa_cons (pv 0) (pa_cons (pe_ix dIx (pv 1) pe_int (fun _ _ => rfl)) pa_nil))))) pa_nil)) pa_nil))) (pe_fz (pe_lc (own := [("_law_row", 6)]) (g := gName 6) (tt := tYes) (by rfl) sc__law_kind_lines.nd (pi_tup (pe_ix dIx (pv 1) pe_int (fun _ _ => rfl))) (blkOk_by (own := [("_law_row", 6)]) (N := ["_law_name", "_law_form", "_law_rows", "_law_field", "_law_kind", "_law_is_wanted", "_law_row"]) (sc := defScope s__law_kind_lines) (by decide +kernel)) (fun _ _ _ _ _ => (pg_name (i := 6) sc__law_kind_lines.nd rfl (Or.inl rfl))) (fun _ _ _ _ _ => pts_nil) (fun _ _ _ _ _ => (pe_bmK (K := K) rfl (pe_bm PySem.F.plainAttrs_str PySem.F.slot_str_join PySem.F.type_str_join mJoin2 pe_str (pa_cons (pe_fz (pe_op dCat (pe_fz (pe_lst (pa_cons pe_str (pa_cons pe_str pa_nil)))) (pe_fz (pe_callTy dList (by rfl) T.n_list PyProof.Rows.Boot.«list» (pa_cons (pv 6) pa_nil))))) pa_nil)))))))))) pss_nil)
      (pss_one (ps_ret (pe_fz (pe_lst (pa_cons (pe_bm PySem.F.plainAttrs_str PySem.F.slot_str_join PySem.F.type_str_join mJoin2 pe_str (pa_cons (pe_fz (pe_lst (pa_cons (pe_ix dIx (pv 1) pe_int (fun _ _ => rfl)) (pa_cons (pv 0) pa_nil)))) pa_nil)) pa_nil)))))))))), inferInstance, ?_⟩)
  · obtain ⟨x, f, rfl, _⟩ := h
    rfl
  obtain ⟨x, f, rfl, hx, gf, k⟩ := h
  rw [encF_tag]
  cases f with
  | int lo hi =>
    simp only [tagF, restF]
    walk_at "d"
    simp only [at_0, at_1, at_2, at_3, Option.some.injEq, exists_eq_left']
    have hln := nm_len hx
    have n1 := numS_len (i := lo) (by have := gf; simp only [gForm] at this; omega) (by have := gf; simp only [gForm] at this; omega)
    have n2 := numS_len (i := hi) (by have := gf; simp only [gForm] at this; omega) (by have := gf; simp only [gForm] at this; omega)
    rw [if_pos (by decide)]
    refine ⟨n1.2, n2.2, [Str.ofString "int", x, numS lo, numS hi], rfl, ?_, k⟩
    simp only [List.map_cons, List.map_nil, List.sum_cons, List.sum_nil, List.length_cons, List.length_nil]
    have := n1.1
    have := n2.1
    have e1 : (Str.ofString "int").length = 3 := rfl
    have e2 : (Str.ofString " ").length = 1 := rfl
    omega
  | bare wd =>
    simp only [tagF, restF]
    have hln := nm_len hx
    rcases gf with e | e | e <;> (
      subst e
      walk_at "d"
      simp only [at_0, at_1, at_2, at_3, Option.some.injEq, exists_eq_left']
      rw [if_neg (by decide)]
      refine ⟨trivial, ?_⟩
      rw [if_neg (by decide), if_neg (by decide), if_neg (by decide), if_neg (by decide)]
      refine ⟨[_, x], rfl, ?_, k⟩
      simp only [List.map_cons, List.map_nil, List.sum_cons, List.sum_nil, List.length_cons, List.length_nil]
      have e2 : (Str.ofString " ").length = 1 := rfl
      have e3 : (Str.ofString "none").length = 4 := rfl
      have e4 : (Str.ofString "bool").length = 4 := rfl
      have e5 : (Str.ofString "text").length = 4 := rfl
      omega)
  | word ws =>
    simp only [tagF, restF]
    have hln := nm_len hx
    have hws := sum_len (ws := ws) (by exact gf.2.2)
    walk_at "d"
    simp only [at_0, at_1, at_2, at_3, Option.some.injEq, exists_eq_left']
    rw [if_neg (by decide)]
    refine ⟨trivial, ?_⟩
    rw [if_pos (by decide)]
    refine ⟨by have := gf.2.1; rw [List.length_map]; omega, Str.ofString "word" :: x :: ws, rfl, ?_, k⟩
    simp only [List.map_cons, List.sum_cons, List.length_cons]
    have := gf.2.1
    have e2 : (Str.ofString " ").length = 1 := rfl
    have e3 : (Str.ofString "word").length ≤ 8 := by decide
    rw [e2]
    omega
  | either ws =>
    simp only [tagF, restF]
    have hln := nm_len hx
    have hws := sum_len (ws := ws) (by exact gf.2.2)
    walk_at "d"
    simp only [at_0, at_1, at_2, at_3, Option.some.injEq, exists_eq_left']
    rw [if_neg (by decide)]
    refine ⟨trivial, ?_⟩
    rw [if_pos (by decide)]
    refine ⟨by have := gf.2.1; rw [List.length_map]; omega, Str.ofString "either" :: x :: ws, rfl, ?_, k⟩
    simp only [List.map_cons, List.sum_cons, List.length_cons]
    have := gf.2.1
    have e2 : (Str.ofString " ").length = 1 := rfl
    have e3 : (Str.ofString "either").length ≤ 8 := by decide
    rw [e2]
    omega
  | list kd lo hi =>
    simp only [tagF, restF]
    have hln := nm_len hx
    have hkl := nm_len gf.1
    have n1 := numS_len (i := lo) (by have := gf.2.1; omega) (by have := gf.2.2.1; omega)
    have e2 : (Str.ofString " ").length = 1 := rfl
    have e3 : (Str.ofString "list").length = 4 := rfl
    have e4 : (Str.ofString "*").length = 1 := rfl
    have m1 := n1.1
    walk_at "d"
    simp only [at_0, at_1, at_2, at_3, Option.some.injEq, exists_eq_left']
    rw [if_neg (by decide)]
    refine ⟨trivial, ?_⟩
    rw [if_neg (by decide), if_pos (by decide)]
    refine ⟨n1.2, ?_⟩
    cases hi with
    | none =>
      simp only [optI]
      refine ⟨[Str.ofString "list", x, kd, numS lo, Str.ofString "*"], rfl, ?_, k⟩
      simp only [List.map_cons, List.map_nil, List.sum_cons, List.sum_nil, List.length_cons, List.length_nil]
      omega
    | some h =>
      have n2 := numS_len (i := h) (by have := gf.2.1; have := gf.2.2.2.1; omega) (by have := gf.2.2.2.2; omega)
      have m2 := n2.1
      simp only [optI]
      refine ⟨n2.2, [Str.ofString "list", x, kd, numS lo, numS h], rfl, ?_, k⟩
      simp only [List.map_cons, List.map_nil, List.sum_cons, List.sum_nil, List.length_cons, List.length_nil]
      omega
  | tagged fd rows =>
    simp only [tagF, restF]
    have hln := nm_len hx
    have hfl := nm_len gf.1
    have e2 : (Str.ofString " ").length = 1 := rfl
    have e3 : (Str.ofString "tagged").length = 6 := rfl
    have e4 : (Str.ofString "").length = 0 := rfl
    walk_at "d"
    simp only [at_0, at_1, at_2, at_3, Option.some.injEq, exists_eq_left']
    rw [if_neg (by decide)]
    refine ⟨trivial, ?_⟩
    rw [if_neg (by decide), if_neg (by decide), if_neg (by decide), if_pos (by decide)]
    refine ⟨[Str.ofString "tagged", x, fd], rfl, ?_, ?_⟩
    · simp only [List.map_cons, List.map_nil, List.sum_cons, List.sum_nil, List.length_cons, List.length_nil]
      omega
    have hrl := gf.2.2.1
    have hws : ∀ r ∈ rows, r.1.length ≤ 8 ∧ r.2.length ≤ 8 := fun r hr => by
      have h1 := gf.2.2.2.1
      unfold areNames at h1
      rw [Bool.and_eq_true, List.all_eq_true] at h1
      exact ⟨nm_len (h1.1 r.1 (List.mem_map.mpr ⟨r, hr, rfl⟩)), nm_len (gf.2.2.2.2 r hr)⟩
    refine lc_map tagL (fun j y hy Q hQ => ?_) ?_ (by rw [List.length_map]; omega)
    · obtain ⟨r, hr2, rfl⟩ := map_at hy
      have hl := hws r (List.mem_of_getElem? hr2)
      walk_at "d"
      refine ⟨[Str.ofString "", Str.ofString "", r.1, r.2], rfl, ?_, hQ _ rfl⟩
      simp only [List.map_cons, List.map_nil, List.sum_cons, List.sum_nil, List.length_cons, List.length_nil]
      omega
    · dsimp only
      refine ⟨by rw [List.length_map, List.length_map]; omega, ?_⟩
      have e : (rows.map fun r => PyData.tuple [.str r.1, .str r.2]).map tagL = (rows.map fun r => joinS [Str.ofString "", Str.ofString "", r.1, r.2]).map .str := by
        rw [List.map_map, List.map_map]
        rfl
      rw [e]
      exact k
  | record op rows =>
    simp only [tagF, restF]
    have hln := nm_len hx
    have e2 : (Str.ofString " ").length = 1 := rfl
    have e3 : (Str.ofString "record").length = 6 := rfl
    have e4 : (Str.ofString "").length = 0 := rfl
    walk_at "d"
    simp only [at_0, at_1, at_2, at_3, Option.some.injEq, exists_eq_left']
    rw [if_neg (by decide)]
    refine ⟨trivial, ?_⟩
    rw [if_neg (by decide), if_neg (by decide), if_pos (by decide)]
    have hop : (List.replicate (if op = true then (1 : Int) else 0).toNat [PyData.str (Str.ofString "open")]).flatten = (if op = true then [Str.ofString "open"] else []).map .str := by cases op <;> rfl
    rw [hop]
    refine ⟨by cases op <;> decide, by cases op <;> decide, by cases op <;> decide, Str.ofString "record" :: x :: (if op = true then [Str.ofString "open"] else []), rfl, ?_, ?_⟩
    · cases op
      · simp [e2, e3]; omega
      · have e5 : (Str.ofString "open").length = 4 := rfl
        simp [e2, e3, e5]; omega
    have hws : ∀ r ∈ rows, r.1.length ≤ 8 ∧ r.2.1.length ≤ 8 := fun r hr => by
      have h1 := gf.1
      unfold areNames at h1
      rw [Bool.and_eq_true, List.all_eq_true] at h1
      exact ⟨nm_len (h1.1 r.1 (List.mem_map.mpr ⟨r, hr, rfl⟩)), nm_len (gf.2.2 r hr)⟩
    refine ⟨fun i ρ => ∃ x3 x4 x5, ρ = [some (.d (.str x)), some (.d (.tuple [.str "record", .bool op, .tuple (rows.map encRec)])), some (.l (((kindLines x (.record op rows)).take (i + 1)).map .str)), x3, x4, x5, none], ⟨none, none, none, rfl⟩, ?_, ?_⟩
    · rintro i y ρ hy ⟨x3, x4, x5, rfl⟩
      obtain ⟨r, hr2, rfl⟩ := map_at hy
      have hl := hws r (List.mem_of_getElem? hr2)
      have hi : i < rows.length := (List.getElem?_eq_some_iff.mp hr2).1
      have hq : (List.replicate (if r.2.2 = true then (0 : Int) else 1).toNat [PyData.str (Str.ofString "?")]).flatten = (if r.2.2 = true then [] else [Str.ofString "?"]).map .str := by cases r.2.2 <;> rfl
      have hq2 : (List.replicate (if (!r.2.2) = true then (1 : Int) else 0).toNat [PyData.str (Str.ofString "?")]).flatten = (if r.2.2 = true then [] else [Str.ofString "?"]).map .str := by cases r.2.2 <;> rfl
      unfold encRec
      walk_at "d"
      first | rw [hq2] | rw [hq]
      refine ⟨by cases r.2.2 <;> decide, by cases r.2.2 <;> decide, by cases r.2.2 <;> decide, Str.ofString "" :: Str.ofString "" :: r.1 :: r.2.1 :: (if r.2.2 = true then [] else [Str.ofString "?"]), rfl, ?_, ?_⟩
      · cases r.2.2
        · have e5 : (Str.ofString "?").length = 1 := rfl
          simp [e2, e4, e5]; omega
        · simp [e2, e4]; omega
      · have hgr := gf.2.1
        refine ⟨?_, ?_⟩
        · rw [List.length_map, List.length_take]; omega
        · refine ⟨some (.d (.str r.1)), some (.d (.str r.2.1)), some (.d (.bool r.2.2)), ?_⟩
          have ht : (kindLines x (.record op rows)).take (i + 1 + 1) = (kindLines x (.record op rows)).take (i + 1) ++ [joinS (Str.ofString "" :: Str.ofString "" :: r.1 :: r.2.1 :: (if r.2.2 = true then [] else [Str.ofString "?"]))] := by
            refine take_succ ?_
            show (rows.map _)[i]? = _
            rw [List.getElem?_map, hr2]
            rfl
          rw [ht, List.map_append]
          rfl
    · rintro ρ ⟨x3, x4, x5, rfl⟩
      rw [List.length_map, show (kindLines x (.record op rows)).take (rows.length + 1) = kindLines x (.record op rows) by
        apply List.take_of_length_le
        simp [kindLines]]
      exact k
end
end Bk
end
section
--@@ genb
set_option Elab.async false
set_option linter.all false
set_option maxRecDepth 100000
set_option maxHeartbeats 4000000
set_option pp.maxSteps 3000
set_option synthInstance.maxHeartbeats 4000000
set_option synthInstance.maxSize 100000
namespace Bk
open PySem PySem.Spec PyProof.Rows L2 Tg Dw En
local macro_rules | `(tactic| walk_at "d") => `(tactic| simp (maxSteps := 4000000) only [DVar, DCon, DLock, DLockV, DCons, DNil, DOp, DOpN, DUn, DTup, DLst, DCB, DCBN, DMt, DMtN, isB, DB, DNot, DAnd, DOr, DAndV, DOrV, DNotV, DIf, DChain, DNext, DSeq, DIfS, DRet, DDrop, DSet, DSetN, GName, GNil, GCons, GTup, DAsgG, DPar, isL, isT, isS, isI, IList, ITup, IStr, IRng1, IRng2, DFor, DLc, DYes, RInt, RIntC, RStr, RCatS, eqC, REq, RNe, isNone, RIsN, RNotN, RInS, RIx, RSlS, ONone, OSome, DSl, DSlN, on1, on2, RLen, RIntOf, RIntS, RStrI, RAbs, RMin2, RMax2, RAll, RAny, NList, RTuple, RReprD, MStarts, MFind, MJoin, tyB, DIs, DIs3, DApp, DCall, DCallX, DRaise, startD, RAdd, RLe, RInX, NCat, RMulX, NSlL, DFzS, DAug, DCallP, startP, wipeD, IItems, DDGet, DDIn, NSortedD, NListD, MDict, DCBM, DParND, DParNN, DPar3N, DPar3, GPut, DPeek, DNe0, DPop, DLenO, DPar3M, DRepl, DDisp1, DNone1, DLam, kD, DMatch, DArms, NSplit, NSortedS, DStar, DDc, flD, inF, eqF, DPeek1, restS, pickS, DLenSet, DSortSet, RDeq, RDne, RDin, DLc2, IEnAt, IKeys, IEnum, IZip, MStarts1, DStarC, DStarS, isStr, ISeq, RCatT, RSlT, RSum, MJoin2, NRep, DParDN, DExt, DListItems, GLst, DPar3DNN, DPutNew, List.length_cons, List.length_nil, List.map_cons, List.map_nil, List.replicate_succ, List.replicate_zero, List.cons_append, List.nil_append, List.getElem?_cons_zero, List.getElem?_cons_succ, List.set_cons_zero, List.set_cons_succ, Nat.reduceAdd, Nat.reduceSub, Nat.zero_add, Bool.not_true, Bool.not_false, Bool.false_eq_true, if_true, if_false, reduceIte, reduceCtorEq, beq_self_eq_true, Bool.true_or, Bool.or_true, Bool.false_or, Bool.or_false, String.reduceBEq, Option.some.injEq, false_and, and_false, exists_const, true_and, and_true, PyData.str.injEq, exists_eq', exists_eq_left', Nat.reduceLeDiff, DV.l.injEq, DV.m.injEq, DV.pot.injEq, List.all_cons, List.all_nil, List.any_cons, List.any_nil, Bool.and_self, Bool.and_true, Bool.true_and, List.zipWith_cons_cons, List.zipWith_nil_right])
theorem lines_take {fs : Forms} {i : Nat} {r : Str × Form} (h : fs[i]? = some r) : linesOf (fs.take (i + 1)) = linesOf (fs.take i) ++ kindLines r.1 r.2 := by
  unfold linesOf
  rw [take_succ h, List.flatMap_append]
  simp
theorem items_enc (fs : Forms) : ((strP (encP fs)).map fun p => PyData.tuple [p.1, p.2]) = fs.map fun r => .tuple [.str r.1, encF r.2] := by
  unfold strP encP
  rw [List.map_map, List.map_map]
  rfl
theorem gf_ok {f : Form} (g : gForm f) : okF f := by
  cases f with
  | bare w => exact g
  | record op rows => exact ⟨are_nd g.1, by have := g.2.1; omega⟩
  | either ms => have := g.2.1; exact (by omega : ms.length ≤ 1000)
  | tagged fd rows => have := g.2.2.1; exact (by omega : rows.length ≤ 1000)
  | _ => trivial
section
variable {P : Program} {w : World} {K : PySem.W.Frag} {mg : Str → Option Value} {base : Heap}
def FPage : DF := fun ds Kk => ∃ (fs : Forms), ds = [encD fs] ∧ GoodL fs ∧ Kk (.str (pageOf fs))
theorem ok_page (T : Tx P K mg) : FnOk P w K mg base CX0 3 T.a__law_page T.fd__law_page ["_law_lore_here"] (spD FPage) := by
  have G__law_kind_lines := ok_lines (w := w) (base := base) T
  refine Dw.okD T.F__law_page sc__law_page (fun ds Kk h => ?_) (fun cdv A outer s H E ds Kk hr h => ⟨_, _, (pss_cons (ps_set (i := 1) sc__law_page.nd rfl (Or.inl rfl) (pe_lst pa_nil))
      (pss_cons (ps_for PassesOwn.never rfl (pi_itemsN (pv 0)) (pg_tup (n := 2) rfl (pgs_cons (pg_name (i := 2) sc__law_page.nd rfl (Or.inl rfl)) (pgs_cons (pg_name (i := 3) sc__law_page.nd rfl (Or.inl rfl)) pgs_nil))) (pss_one (ps_expr (pe_bm PySem.F.plainAttrs_list PySem.F.slot_list_extend PySem.F.type_list_extend mt_extendR (pv 1) (pa_cons (pe_call G__law_kind_lines (hr.mono (by first | decide | omega)) (by rfl) T.m__law_kind_lines T.F__law_kind_lines.kp T.b__law_kind_lines .nil pass0 (pa_cons (pv 2) (pa_cons (pv 3) pa_nil))) pa_nil)))))
      (pss_one (ps_ret (pe_bm PySem.F.plainAttrs_str PySem.F.slot_str_join PySem.F.type_str_join mJoin2 pe_str (pa_cons (pe_fz (pv 1)) pa_nil)))))), inferInstance, ?_⟩)
  · obtain ⟨fs, rfl, _⟩ := h
    rfl
  obtain ⟨fs, rfl, g, k⟩ := h
  unfold encD
  walk_at "d"
  rw [items_enc]
  refine ⟨fun i ρ => ∃ x2 x3, ρ = [some (.d (encD fs)), some (.l ((linesOf (fs.take i)).map .str)), x2, x3], ⟨none, none, rfl⟩, ?_, ?_⟩
  · rintro i y ρ hy ⟨x2, x3, rfl⟩
    obtain ⟨r, hr2, rfl⟩ := map_at hy
    have hm := List.mem_of_getElem? hr2
    walk_at "d"
    refine ⟨r.1, r.2, rfl, g.nm r hm, g.gf r hm, ?_⟩
    dsimp only
    have l1 := (lines_few (fs := fs.take i) (fun q hq => g.gf q (List.mem_of_mem_take hq))).1
    have l2 := (kind_few (x := r.1) (g.gf r hm)).1
    have l3 : (fs.take i).length ≤ 30 := by have := g.few; rw [List.length_take]; omega
    refine ⟨by rw [List.length_map, List.length_map]; omega, some (.d (.str r.1)), some (.d (encF r.2)), ?_⟩
    rw [lines_take hr2, List.map_append]
  · rintro ρ ⟨x2, x3, rfl⟩
    rw [List.length_map, List.take_length]
    walk_at "d"
    refine ⟨linesOf fs, rfl, ?_, k⟩
    have l1 := (lines_few g.gf).1
    have l3 := g.few
    have l4 : (Str.ofString "\n").length = 1 := rfl
    have : ((linesOf fs).map (·.length)).sum ≤ (linesOf fs).length * 198 := by
      have hz := fun z hz => (lines_ok g z hz).2.1
      generalize linesOf fs = ls at hz
      induction ls with
      | nil => simp
      | cons a r ih =>
        rw [List.map_cons, List.sum_cons, List.length_cons, Nat.succ_mul]
        have := ih fun z hz' => hz z (List.mem_cons_of_mem _ hz')
        have := hz a List.mem_cons_self
        omega
    have : (linesOf fs).length * 198 ≤ 210 * 198 := Nat.mul_le_mul_right _ (by omega)
    rw [l4]
    omega
theorem ok_isLine (T : Tx P K mg) : FnOk P w K mg base CX0 1 T.a__law_is_line T.fd__law_is_line ["_law_lore_here", "_law_kind", "_law_field"] (spD FLine) := by
  refine Dw.okD T.F__law_is_line sc__law_is_line (fun ds Kk h => ?_) (fun cdv A outer s H E ds Kk hr h => ⟨_, _, (pss_one (ps_ret (pe_and (pe_cmp (pc_din (hu_of hr) (pv 1) (pv 0))) (pe_and (pe_cmpR dEq (pe_ix dIx (pe_dget (hu_of hr) (pv 0) (pv 1) (fun _ _ => rfl)) pe_int (fun _ _ => rfl)) pe_str (nomark _)) (pe_one (pe_cmpR dNotInX (pv 2) (pe_fz (pe_lc (own := [("_law_row", 3)]) (g := gName 3) (tt := tYes) (by rfl) sc__law_is_line.nd (pi_tupK (K := K) rfl (pe_ix dIx (pe_dget (hu_of hr) (pv 0) (pv 1) (fun _ _ => rfl)) pe_int (fun _ _ => rfl))) (blkOk_by (own := [("_law_row", 3)]) (N := ["_law_lore_here", "_law_kind", "_law_field", "_law_row"]) (sc := defScope s__law_is_line) (by decide +kernel)) (fun _ _ _ _ _ => (pg_name (i := 3) sc__law_is_line.nd rfl (Or.inl rfl))) (fun _ _ _ _ _ => pts_nil) (fun _ _ _ _ _ => (pe_ix dIx (pv 3) pe_int (fun _ _ => rfl))))) (by rfl))))))), inferInstance, ?_⟩)
  · obtain ⟨fs, name, field, rfl, _⟩ := h
    rfl
  obtain ⟨fs, name, field, rfl, ok, k⟩ := h
  walk_at "d"
  refine ⟨encP fs, rfl, ?_⟩
  dsimp only
  rw [look_enc]
  cases hf : lookF name fs with
  | none =>
    rw [if_neg (by decide)]
    rw [show lineKind fs name field = false by unfold lineKind; rw [hf]] at k
    exact k
  | some f =>
    rw [if_pos (show (Option.map encF (some f)).isSome = true from rfl)]
    refine ⟨encP fs, rfl, encF f, by rw [look_enc, hf]; rfl, ?_⟩
    rw [encF_tag]
    refine ⟨.str (tagF f), at_nat (i := 0) rfl, ?_⟩
    dsimp only
    have fo := ok _ (lookF_mem hf)
    by_cases ht : tagF f = Str.ofString "record"
    · rw [if_pos (decide_eq_true ht)]
      obtain ⟨op, rows, rfl⟩ : ∃ op rows, f = .record op rows := by
        cases f with
        | record op rows => exact ⟨op, rows, rfl⟩
        | bare w => rcases fo with e | e | e <;> (simp only [tagF] at ht; rw [e] at ht; exact absurd ht (by decide))
        | _ => simp only [tagF] at ht; exact absurd ht (by decide)
      refine ⟨encP fs, rfl, encF (.record op rows), by rw [look_enc, hf]; rfl, ?_⟩
      dsimp only [encF]
      refine ⟨_, at_nat (i := 2) rfl, ?_⟩
      dsimp only
      refine lc_map hd1 (fun j y hy Q' hQ' => ?_) ?_ (by rw [List.length_map]; have := fo.2; omega)
      · obtain ⟨r, hr2, rfl⟩ := map_at hy
        walk_at "d"
        exact ⟨.str r.1, at_nat (i := 0) rfl, hQ' _ rfl⟩
      · rw [show (rows.map fun r => PyData.tuple [.str r.1, .str r.2.1, .bool r.2.2]).map hd1 = (rows.map (·.1)).map .str by rw [List.map_map, List.map_map]; rfl]
        walk_at "d"
        refine ⟨fl_strs _, ?_⟩
        have e := in_strs field (rows.map (·.1))
        simp only [inF, eqF] at e
        rw [e]
        rw [show lineKind fs name field = !(rows.map (·.1)).contains field by unfold lineKind; rw [hf]] at k
        rw [show (rows.map (·.1)).contains field = decide (field ∈ rows.map (·.1)) by rw [Bool.eq_iff_iff]; simp] at k
        exact k
    · rw [if_neg (by rw [decide_eq_true_eq]; exact ht)]
      rw [show lineKind fs name field = false by
        unfold lineKind
        rw [hf]
        cases f with
        | record op rows => exact absurd rfl ht
        | _ => rfl] at k
      exact k
end
end Bk
end
section
--@@ genb
set_option Elab.async false
set_option linter.all false
set_option maxRecDepth 100000
set_option maxHeartbeats 4000000
set_option pp.maxSteps 3000
set_option synthInstance.maxHeartbeats 4000000
set_option synthInstance.maxSize 100000
namespace Bk
open PySem PySem.Spec PyProof.Rows L2 Tg Dw En
local macro_rules | `(tactic| walk_at "d") => `(tactic| simp (maxSteps := 4000000) only [DInO, DTru, DPop0, DVar, DCon, DLock, DLockV, DCons, DNil, DOp, DOpN, DUn, DTup, DLst, DCB, DCBN, DMt, DMtN, isB, DB, DNot, DAnd, DOr, DAndV, DOrV, DNotV, DIf, DChain, DNext, DSeq, DIfS, DRet, DDrop, DSet, DSetN, GName, GNil, GCons, GTup, DAsgG, DPar, isL, isT, isS, isI, IList, ITup, IStr, IRng1, IRng2, DFor, DLc, DYes, RInt, RIntC, RStr, RCatS, eqC, REq, RNe, isNone, RIsN, RNotN, RInS, RIx, RSlS, ONone, OSome, DSl, DSlN, on1, on2, RLen, RIntOf, RIntS, RStrI, RAbs, RMin2, RMax2, RAll, RAny, NList, RTuple, RReprD, MStarts, MFind, MJoin, tyB, DIs, DIs3, DApp, DCall, DCallX, DRaise, startD, RAdd, RLe, RInX, NCat, RMulX, NSlL, DFzS, DAug, DCallP, startP, wipeD, IItems, DDGet, DDIn, NSortedD, NListD, MDict, DCBM, DParND, DParNN, DPar3N, DPar3, GPut, DPeek, DNe0, DPop, DLenO, DPar3M, DRepl, DDisp1, DNone1, DLam, kD, DMatch, DArms, NSplit, NSortedS, DStar, DDc, flD, inF, eqF, DPeek1, restS, pickS, DLenSet, DSortSet, RDeq, RDne, RDin, DLc2, IEnAt, IKeys, IEnum, IZip, MStarts1, DStarC, DStarS, isStr, ISeq, RCatT, RSlT, RSum, MJoin2, NRep, DParDN, DExt, DListItems, GLst, DPar3DNN, DPutNew, List.length_cons, List.length_nil, List.map_cons, List.map_nil, List.replicate_succ, List.replicate_zero, List.cons_append, List.nil_append, List.getElem?_cons_zero, List.getElem?_cons_succ, List.set_cons_zero, List.set_cons_succ, Nat.reduceAdd, Nat.reduceSub, Nat.zero_add, Bool.not_true, Bool.not_false, Bool.false_eq_true, if_true, if_false, reduceIte, reduceCtorEq, beq_self_eq_true, Bool.true_or, Bool.or_true, Bool.false_or, Bool.or_false, String.reduceBEq, Option.some.injEq, false_and, and_false, exists_const, true_and, and_true, PyData.str.injEq, exists_eq', exists_eq_left', Nat.reduceLeDiff, DV.l.injEq, DV.m.injEq, DV.pot.injEq, List.all_cons, List.all_nil, List.any_cons, List.any_nil, Bool.and_self, Bool.and_true, Bool.true_and, List.zipWith_cons_cons, List.zipWith_nil_right])
section
variable {P : Program} {w : World} {K : PySem.W.Frag} {mg : Str → Option Value} {base : Heap}
def FBehind : DF := fun ds Kk => ∃ (fs : Forms) (x : Str), ds = [encD fs, .str x] ∧ Closed fs ∧ hasF fs x = true ∧ ∀ zs : List Str, (∀ y, y ∈ zs ↔ Led fs x y) → zs.length ≤ 30 → Kk (.list (zs.map .str))
theorem ok_behind (T : Tx P K mg) : FnOk P w K mg base CX0 1 T.a__law_behind T.fd__law_behind ["_law_lore_here", "_law_name"] (spD FBehind) := by
  refine Dw.okD T.F__law_behind sc__law_behind (fun ds Kk h => ?_) (fun cdv A outer s H E ds Kk hr h => ⟨_, _, (pss_cons (ps_par (i := 2) (j := 3) (by rfl) sc__law_behind.nd rfl rfl (by decide) rfl rfl (pa_cons (pe_lst pa_nil) (pa_cons (pe_lst (pa_cons (pv 1) pa_nil)) pa_nil)) (by rfl))
      (pss_cons (ps_while PassesOwn.never (pt_cmpR (op_neL0 (Nat.lt_of_le_of_lt (Nat.le_add_right _ _) hr.units)) (pv 3) (pe_lst pa_nil) (nomark _)) (pss_cons (ps_set (i := 4) sc__law_behind.nd rfl (Or.inl rfl) (pe_dget (hu_of hr) (pv 0) (pe_bm0 PySem.F.plainAttrs_list PySem.F.slot_list_pop PySem.F.type_list_pop mt_pop (pv 3)) (fun _ _ => rfl)))
      (pss_one (ps_for PassesOwn.never rfl (pi_tup (pe_ifExp (pt_cmpR dEq (pe_ix dIx (pv 4) pe_int (fun _ _ => rfl)) pe_str (nomark _)) (pe_ix dIx (pv 4) pe_int (fun _ _ => rfl)) (pe_tup pa_nil))) (pg_name (i := 5) sc__law_behind.nd rfl (Or.inl rfl)) (pss_one (ps_if (pt_cmpR op_notIn_seq (pv 5) (pv 2) (by rfl)) (pss_cons (ps_expr (pe_bm PySem.F.plainAttrs_list PySem.F.slot_list_append PySem.F.type_list_append mt_append (pv 2) (pa_cons (pv 5) pa_nil)))
      (pss_one (ps_expr (pe_bm PySem.F.plainAttrs_list PySem.F.slot_list_append PySem.F.type_list_append mt_append (pv 3) (pa_cons (pv 5) pa_nil))))) pss_nil))))))
      (pss_one (ps_ret (pe_fz (pv 2)))))), inferInstance, ?_⟩)
  · obtain ⟨fs, x, rfl, _⟩ := h
    rfl
  obtain ⟨fs, x, rfl, cl, hx, k⟩ := h
  walk_at "d"
  generalize hB : DIfS (DB (DInO _ _ _)) _ _ = UB
  have ledF : ∀ y, Led fs x y → hasF fs y = true := fun y h => rch_in cl (fun z hz => cl.mem x z hz) _ y h
  refine ⟨by decide, DWhile.by_ (fun n ρ => ∃ (fo wa : List Str) (x4 x5 : Option DV), ρ = [some (.d (encD fs)), some (.d (.str x)), some (.l (fo.map .str)), some (.l (wa.map .str)), x4, x5] ∧ fo.Nodup ∧ (∀ y ∈ fo, Led fs x y) ∧ (∀ y ∈ wa, y = x ∨ y ∈ fo) ∧ (∀ v, (v = x ∨ v ∈ fo) → v ∈ wa ∨ ∀ y ∈ membersBy fs v, y ∈ fo) ∧ wa.length ≤ fo.length + 1 ∧ n = wa.length + 2 * (fs.length - fo.length)) _ ⟨[], [x], none, none, rfl, by simp, by simp, by simp, by simp, by simp, rfl⟩ ?_⟩
  rintro n ρ ⟨fo, wa, x4, x5, rfl, nd, hled, hwa, hcl, hlen, rfl⟩
  have foN : fo.length ≤ fs.length := by
    refine Nat.le_trans (nd_len (m := fs.map (·.1)) nd fun y hy => ?_) (by rw [List.length_map]; exact Nat.le_refl _)
    have := ledF y (hled y hy)
    unfold hasF at this
    exact of_decide_eq_true this
  walk_at "d"
  by_cases h0 : wa = []
  · subst h0
    rw [if_neg (by decide)]
    refine k fo (fun y => ⟨hled y, fun h => rch_least (S := fun y => y ∈ fo) (fun z hz => ?_) (fun u z hu hz => ?_) _ y h⟩) (by have := cl.few; omega)
    · rcases hcl x (.inl rfl) with q | q
      · cases q
      · exact q z hz
    · rcases hcl u (.inr hu) with q | q
      · cases q
      · exact q z hz
  · have hl0 : 0 < wa.length := List.length_pos_iff.mpr h0
    rw [if_pos (by cases wa with
      | nil => exact absurd rfl h0
      | cons a r => rfl)]
    obtain ⟨u, hu⟩ : ∃ u, wa[wa.length - 1]? = some u := ⟨wa[wa.length - 1], List.getElem?_eq_getElem (by omega)⟩
    have hum : u ∈ wa := List.mem_of_getElem? hu
    have huF : hasF fs u = true := by
      rcases hwa u hum with rfl | q
      · exact hx
      · exact ledF u (hled u q)
    have hlu : ∀ y ∈ membersBy fs u, Led fs x y := fun y hy => by
      rcases hwa u hum with rfl | q
      · exact led_first hy
      · exact led_next cl (hled u q) hy
    obtain ⟨f, hf⟩ : ∃ f, lookF u fs = some f := by
      unfold hasF at huF
      rw [← lookF_some] at huF
      exact Option.isSome_iff_exists.mp huF
    have fo' := cl.ok _ (lookF_mem hf)
    refine ⟨.str u, by rw [List.length_map, List.getElem?_map, hu]; rfl, encP fs, rfl, encF f, by rw [look_enc, hf]; rfl, ?_⟩
    have hdl : ∀ y, y ∈ wa → y = u ∨ y ∈ wa.dropLast := fun y hy => by
      have e : wa.dropLast ++ [u] = wa := by
        have e1 := List.dropLast_concat_getLast h0
        have e2 : wa.getLast h0 = u := by
          rw [List.getLast_eq_getElem]
          exact (List.getElem?_eq_some_iff.mp hu).2
        rw [e2] at e1
        exact e1
      rw [← e] at hy
      rcases List.mem_append.mp hy with q | q
      · exact .inr q
      · exact .inl (List.mem_singleton.mp q)
    have loop : ∀ (DD : DEnds) (x4 x5 : Option DV), (∀ (fo2 wa2 : List Str) (x5' : Option DV), fo2.Nodup → (∀ y ∈ fo2, Led fs x y) → (∀ y ∈ wa2, y = x ∨ y ∈ fo2) → (∀ v, (v = x ∨ v ∈ fo2) → v ∈ wa2 ∨ ∀ y ∈ membersBy fs v, y ∈ fo2) → wa2.length ≤ fo2.length + 1 → wa2.length + 2 * (fs.length - fo2.length) < wa.length + 2 * (fs.length - fo.length) → DD.nx [some (.d (encD fs)), some (.d (.str x)), some (.l (fo2.map .str)), some (.l (wa2.map .str)), x4, x5']) →
        ForB ((membersBy fs u).map .str) (GName 5) UB DD [some (.d (encD fs)), some (.d (.str x)), some (.l (fo.map .str)), some (.l (wa.map .str).dropLast), x4, x5] := by
      intro DD x4 x5 hD
      refine ⟨fun i ρ => ∃ (fo2 wa2 : List Str) (x5' : Option DV), ρ = [some (.d (encD fs)), some (.d (.str x)), some (.l (fo2.map .str)), some (.l (wa2.map .str)), x4, x5'] ∧ fo2.Nodup ∧ (∀ y ∈ fo2, Led fs x y) ∧ (∀ y ∈ wa2, y = x ∨ y ∈ fo2) ∧ (∀ v, (v = x ∨ v ∈ fo2) → v = u ∨ v ∈ wa2 ∨ ∀ y ∈ membersBy fs v, y ∈ fo2) ∧ (∀ y ∈ (membersBy fs u).take i, y ∈ fo2) ∧ wa2.length ≤ fo2.length ∧ wa2.length + 2 * (fs.length - fo2.length) < wa.length + 2 * (fs.length - fo.length), ⟨fo, wa.dropLast, x5, by rw [List.map_dropLast], nd, hled, fun y hy => hwa y (List.dropLast_subset _ hy), fun v hv => ?_, by simp, by rw [List.length_dropLast]; omega, by rw [List.length_dropLast]; omega⟩, ?_, ?_⟩
      · rcases hcl v hv with q | q
        · rcases hdl v q with q | q
          · exact .inl q
          · exact .inr (.inl q)
        · exact .inr (.inr q)
      · rintro i y ρ hy ⟨fo2, wa2, x5', rfl, nd2, led2, wa2x, cl2, tk2, ln2, ms2⟩
        obtain ⟨z, hz, rfl⟩ := map_strs hy
        have hzm := List.mem_of_getElem? hz
        have fo2N : fo2.length ≤ fs.length := by
          refine Nat.le_trans (nd_len (m := fs.map (·.1)) nd2 fun y hy => ?_) (by rw [List.length_map]; exact Nat.le_refl _)
          have := ledF y (led2 y hy)
          unfold hasF at this
          exact of_decide_eq_true this
        rw [← hB]
        walk_at "d"
        have e3 := in_strs z fo2
        simp only [inF, eqF] at e3
        rw [e3]
        refine ⟨fl_strs _, ?_⟩
        by_cases hin : z ∈ fo2
        · rw [decide_eq_true hin, if_neg (by decide)]
          refine ⟨fo2, wa2, _, rfl, nd2, led2, wa2x, cl2, fun y hy => ?_, ln2, ms2⟩
          rw [take_succ hz] at hy
          rcases List.mem_append.mp hy with q | q
          · exact tk2 y q
          · rw [List.mem_singleton.mp q]; exact hin
        · rw [decide_eq_false hin, if_pos (by decide)]
          have nd3 : (fo2 ++ [z]).Nodup := by
            rw [List.nodup_append]
            refine ⟨nd2, by simp, ?_⟩
            intro a ha b hb e
            rw [List.mem_singleton.mp hb] at e
            exact hin (e ▸ ha)
          have led3 : ∀ y ∈ fo2 ++ [z], Led fs x y := fun y hy => by
            rcases List.mem_append.mp hy with q | q
            · exact led2 y q
            · rw [List.mem_singleton.mp q]; exact hlu z hzm
          have fo3N : (fo2 ++ [z]).length ≤ fs.length := by
            refine Nat.le_trans (nd_len (m := fs.map (·.1)) nd3 fun y hy => ?_) (by rw [List.length_map]; exact Nat.le_refl _)
            have := ledF y (led3 y hy)
            unfold hasF at this
            exact of_decide_eq_true this
          rw [List.length_append, List.length_singleton] at fo3N
          have hN := cl.few
          refine ⟨by rw [List.length_map]; omega, by rw [List.length_map]; omega, fo2 ++ [z], wa2 ++ [z], some (.d (.str z)), by rw [List.map_append, List.map_append]; rfl, nd3, led3, fun y hy => ?_, fun v hv => ?_, fun y hy => ?_, by rw [List.length_append, List.length_append]; simpa using ln2, by rw [List.length_append, List.length_append, List.length_singleton]; omega⟩
          · rcases List.mem_append.mp hy with q | q
            · rcases wa2x y q with q | q
              · exact .inl q
              · exact .inr (List.mem_append_left _ q)
            · exact .inr (List.mem_append_right _ q)
          · have hv2 : (v = x ∨ v ∈ fo2) ∨ v = z := by
              rcases hv with q | q
              · exact .inl (.inl q)
              · rcases List.mem_append.mp q with q | q
                · exact .inl (.inr q)
                · exact .inr (List.mem_singleton.mp q)
            rcases hv2 with q | rfl
            · rcases cl2 v q with q | q | q
              · exact .inl q
              · exact .inr (.inl (List.mem_append_left _ q))
              · exact .inr (.inr fun y hy => List.mem_append_left _ (q y hy))
            · exact .inr (.inl (List.mem_append_right _ (by simp)))
          · rw [take_succ hz] at hy
            rcases List.mem_append.mp hy with q | q
            · exact List.mem_append_left _ (tk2 y q)
            · exact List.mem_append_right _ q
      · rintro ρ ⟨fo2, wa2, x5', rfl, nd2, led2, wa2x, cl2, tk2, ln2, ms2⟩
        rw [List.length_map, List.take_length] at tk2
        refine hD fo2 wa2 x5' nd2 led2 wa2x (fun v hv => ?_) (by omega) ms2
        rcases cl2 v hv with rfl | q | q
        · exact .inr tk2
        · exact .inl q
        · exact .inr q
    have fin := loop
    rw [encF_tag]
    refine ⟨.str (tagF f), at_0 _ _, ?_⟩
    dsimp only
    by_cases ht : tagF f = Str.ofString "either"
    · rw [if_pos (decide_eq_true ht)]
      obtain ⟨ms, rfl⟩ : ∃ ms, f = .either ms := by
        cases f with
        | either ms => exact ⟨ms, rfl⟩
        | bare w => rcases fo' with e | e | e <;> (simp only [tagF] at ht; rw [e] at ht; exact absurd ht (by decide))
        | _ => simp only [tagF] at ht; exact absurd ht (by decide)
      have hmu : membersBy fs u = ms := by unfold membersBy; rw [hf]
      rw [hmu] at fin
      refine ⟨_, at_1 _ _ _, ?_⟩
      exact fin _ _ _ fun fo2 wa2 x5' h1 h2 h3 h4 h5 h6 => ⟨_, h6, fo2, wa2, _, _, rfl, h1, h2, h3, h4, h5, rfl⟩
    · rw [if_neg (by rw [decide_eq_true_eq]; exact ht)]
      have hmu : membersBy fs u = [] := by
        unfold membersBy
        rw [hf]
        cases f with
        | either ms => exact absurd rfl ht
        | _ => rfl
      rw [hmu] at fin
      exact fin _ _ _ fun fo2 wa2 x5' h1 h2 h3 h4 h5 h6 => ⟨_, h6, fo2, wa2, _, _, rfl, h1, h2, h3, h4, h5, rfl⟩
end
end Bk
end
section
--@@ genb
set_option Elab.async false
set_option linter.all false
set_option maxRecDepth 100000
set_option maxHeartbeats 4000000
set_option pp.maxSteps 8000
set_option synthInstance.maxHeartbeats 4000000
set_option synthInstance.maxSize 100000
namespace Bk
open PySem PySem.Spec PyProof.Rows L2 Tg Dw En
local macro_rules | `(tactic| walk_at "d") => `(tactic| simp (maxSteps := 4000000) only [IEn1, DInO, DTru, DPop0, DVar, DCon, DLock, DLockV, DCons, DNil, DOp, DOpN, DUn, DTup, DLst, DCB, DCBN, DMt, DMtN, isB, DB, DNot, DAnd, DOr, DAndV, DOrV, DNotV, DIf, DChain, DNext, DSeq, DIfS, DRet, DDrop, DSet, DSetN, GName, GNil, GCons, GTup, DAsgG, DPar, isL, isT, isS, isI, IList, ITup, IStr, IRng1, IRng2, DFor, DLc, DYes, RInt, RIntC, RStr, RCatS, eqC, REq, RNe, isNone, RIsN, RNotN, RInS, RIx, RSlS, ONone, OSome, DSl, DSlN, on1, on2, RLen, RIntOf, RIntS, RStrI, RAbs, RMin2, RMax2, RAll, RAny, NList, RTuple, RReprD, MStarts, MFind, MJoin, tyB, DIs, DIs3, DApp, DCall, DCallX, DRaise, startD, RAdd, RLe, RInX, NCat, RMulX, NSlL, DFzS, DAug, DCallP, startP, wipeD, IItems, DDGet, DDIn, NSortedD, NListD, MDict, DCBM, DParND, DParNN, DPar3N, DPar3, GPut, DPeek, DNe0, DPop, DLenO, DPar3M, DRepl, DDisp1, DNone1, DLam, kD, DMatch, DArms, NSplit, NSortedS, DStar, DDc, flD, inF, eqF, DPeek1, restS, pickS, DLenSet, DSortSet, RDeq, RDne, RDin, DLc2, IEnAt, IKeys, IEnum, IZip, MStarts1, DStarC, DStarS, isStr, ISeq, RCatT, RSlT, RSum, MJoin2, NRep, DParDN, DExt, DListItems, GLst, DPar3DNN, DPutNew, List.length_cons, List.length_nil, List.map_cons, List.map_nil, List.replicate_succ, List.replicate_zero, List.cons_append, List.nil_append, List.getElem?_cons_zero, List.getElem?_cons_succ, List.set_cons_zero, List.set_cons_succ, Nat.reduceAdd, Nat.reduceSub, Nat.zero_add, Bool.not_true, Bool.not_false, Bool.false_eq_true, if_true, if_false, reduceIte, reduceCtorEq, beq_self_eq_true, Bool.true_or, Bool.or_true, Bool.false_or, Bool.or_false, String.reduceBEq, Option.some.injEq, false_and, and_false, exists_const, true_and, and_true, PyData.str.injEq, exists_eq', exists_eq_left', Nat.reduceLeDiff, DV.l.injEq, DV.m.injEq, DV.pot.injEq, List.all_cons, List.all_nil, List.any_cons, List.any_nil, Bool.and_self, Bool.and_true, Bool.true_and, List.zipWith_cons_cons, List.zipWith_nil_right])
theorem rows_get : ∀ (fs : Forms) (n : Int) (i : Nat) (r : Str × Form), fs[i]? = some r → (rowsOf n fs)[i]? = some (r.1, r.2, n + (linesOf (fs.take i)).length)
  | [], _, _, _, h => by simp at h
  | (x, f) :: fs, n, 0, r, h => by
    simp only [List.getElem?_cons_zero, Option.some.injEq] at h
    subst h
    simp [rowsOf, linesOf]
  | (x, f) :: fs, n, i + 1, r, h => by
    rw [List.getElem?_cons_succ] at h
    have := rows_get fs (n + (kindLines x f).length) i r h
    rw [rowsOf, List.getElem?_cons_succ, this, List.take_succ_cons, lines_cons, List.length_append]
    congr 3
    omega
def firstsP (rows : Rows) : List (Str × PyData) := rows.map fun r => (r.1, .int r.2.2)
theorem rows_names (fs : Forms) (n : Int) : (rowsOf n fs).map (·.1) = fs.map (·.1) := by
  have := congrArg (List.map (·.1)) (forms_rows fs n)
  unfold formsOf at this
  rw [List.map_map] at this
  exact this
theorem firsts_put {fs : Forms} (nd : (fs.map (·.1)).Nodup) {i : Nat} {r : Str × Form × Int} (h : (rowsOf 1 fs)[i]? = some r) : putP (firstsP ((rowsOf 1 fs).take i)) r.1 (.int r.2.2) = firstsP ((rowsOf 1 fs).take (i + 1)) := by
  have e := take_succ h
  rw [putP_new, e]
  · unfold firstsP
    rw [List.map_append]
    rfl
  · unfold firstsP
    rw [List.map_map]
    intro q
    have nd2 : ((rowsOf 1 fs).map (·.1)).Nodup := by rw [rows_names]; exact nd
    have hi := List.getElem?_eq_some_iff.mp h
    have e2 : (rowsOf 1 fs).map (·.1) = ((rowsOf 1 fs).take i).map (·.1) ++ r.1 :: ((rowsOf 1 fs).drop (i + 1)).map (·.1) := by
      rw [← List.map_cons, ← List.map_append]
      congr 1
      rw [← hi.2, ← List.drop_eq_getElem_cons hi.1, List.take_append_drop]
    rw [e2, List.nodup_append] at nd2
    exact nd2.2.2 r.1 q r.1 (by simp) rfl
theorem enums_cons (k : Int) (x : PyData) (xs : List PyData) : enums k (x :: xs) = .tuple [.int k, x] :: enums (k + 1) xs := by
  unfold enums
  rw [List.length_cons, List.range_succ_eq_map, List.map_cons, List.map_map]
  congr 1
  · simp
  · apply List.map_congr_left
    intro i _
    simp
    omega
/-- what is bad in lines -/
def badF (n : Int) : PyData → PyData
  | .tuple [.int k, _] => .int (n + 1 + k)
  | _ => .none
def badK {α : Type} (p : α → Bool) (un : PyData → α) : PyData → Bool
  | .tuple [_, d] => !p (un d)
  | _ => false
theorem bad_first {α : Type} (p : α → Bool) (en : α → PyData) (un : PyData → α) (hu : ∀ a, un (en a) = a) (n : Int) : ∀ (l : List α) (k : Int), (((enums k (l.map en)).filter (badK p un)).map (badF n)).head? = (firstBad p (n + 1 + k) l).map .int
  | [], k => rfl
  | a :: l, k => by
    rw [List.map_cons, enums_cons, firstBad]
    have ih := bad_first p en un hu n l (k + 1)
    by_cases h : p a = true
    · rw [if_pos h, List.filter_cons_of_neg (by simp [badK, hu, h]), ih]
      rw [show n + 1 + (k + 1) = n + 1 + k + 1 by omega]
    · rw [if_neg h, List.filter_cons_of_pos (by simp [badK, hu, h])]
      rfl
theorem lookF_of {x : Str} {f : Form} : ∀ {fs : Forms}, (fs.map (·.1)).Nodup → (x, f) ∈ fs → lookF x fs = some f
  | (y, g) :: r, nd, h => by
    rw [List.map_cons, List.nodup_cons] at nd
    unfold lookF
    rcases List.mem_cons.mp h with q | q
    · cases q
      rw [if_pos rfl]
    · rw [if_neg]
      · exact lookF_of nd.2 q
      · rintro rfl
        exact nd.1 (List.mem_map.mpr ⟨_, q, rfl⟩)
theorem firsts_look {r : Str × Form × Int} : ∀ {rows : Rows}, (rows.map (·.1)).Nodup → r ∈ rows → lookP r.1 (firstsP rows) = some (.int r.2.2)
  | a :: rs, nd, h => by
    rw [List.map_cons, List.nodup_cons] at nd
    show lookP r.1 ((a.1, .int a.2.2) :: firstsP rs) = _
    unfold lookP
    rcases List.mem_cons.mp h with rfl | q
    · rw [if_pos rfl]
    · rw [if_neg]
      · exact firsts_look nd.2 q
      · intro e
        exact nd.1 (List.mem_map.mpr ⟨_, q, e.symm⟩)
def keepE (fs : Forms) : PyData → Bool
  | .str u => match lookF u fs with
    | some f => isEither f && hasRing fs u
    | none => false
  | _ => false
theorem ring_head {fs : Forms} : ∀ (rs : Rows), (∀ r ∈ rs, lookF r.1 fs = some r.2.1) → (((rs.map fun r => PyData.str r.1).filter (keepE fs) = [] ∧ ringGo fs rs = none) ∨ ∃ r ∈ rs, ((rs.map fun r => PyData.str r.1).filter (keepE fs)).head? = some (.str r.1) ∧ ringGo fs rs = some r.2.2)
  | [], _ => .inl ⟨rfl, rfl⟩
  | a :: rs, h => by
    have ha := h a List.mem_cons_self
    have ek : keepE fs (.str a.1) = (isEither a.2.1 && hasRing fs a.1) := by simp only [keepE, ha]
    rw [List.map_cons, ringGo]
    by_cases q : (isEither a.2.1 && hasRing fs a.1) = true
    · rw [if_pos q, List.filter_cons_of_pos (by rw [ek]; exact q)]
      exact .inr ⟨a, List.mem_cons_self, rfl, rfl⟩
    · rw [if_neg q, List.filter_cons_of_neg (by rw [ek]; exact q)]
      rcases ring_head rs fun r hr => h r (List.mem_cons_of_mem _ hr) with z | ⟨r, hr, z⟩
      · exact .inl z
      · exact .inr ⟨r, List.mem_cons_of_mem _ hr, z⟩
def unRec : PyData → Str × Str × Bool
  | .tuple [.str a, .str b, .bool c] => (a, b, c)
  | _ => (Str.ofString "", Str.ofString "", false)
def unTag : PyData → Str × Str
  | .tuple [.str a, .str b] => (a, b)
  | _ => (Str.ofString "", Str.ofString "")
section
variable {P : Program} {w : World} {K : PySem.W.Frag} {mg : Str → Option Value} {base : Heap}
def dueD (fs : Forms) : PyData := match namedGo fs (rowsOf 1 fs) with
  | some m => .tuple [.str "Unnamed", .int m]
  | none => match ringGo fs (rowsOf 1 fs) with
    | some m => .tuple [.str "Ring", .int m]
    | none => .none
def FDue : DF := fun ds Kk => ∃ (fs : Forms), ds = [encD fs] ∧ GoodL fs ∧ Kk (dueD fs)
theorem ok_due (T : Tx P K mg) : FnOk P w K mg base CX0 3 T.a__law_due T.fd__law_due ["_law_lore_here"] (spD FDue) := by
  have G__law_behind := ok_behind (w := w) (base := base) T
  have G__law_is_line := ok_isLine (w := w) (base := base) T
  have G__law_kind_lines := ok_lines (w := w) (base := base) T
  refine Dw.okD T.F__law_due sc__law_due (fun ds Kk h => ?_) (fun cdv A outer s H E ds Kk hr h => ⟨_, _, (pss_cons (ps_asg (pe_tup (pa_cons pe_int (pa_cons pe_dnewK pa_nil))) (pg_tup (n := 2) rfl (pgs_cons (pg_name (i := 1) sc__law_due.nd rfl (Or.inr rfl)) (pgs_cons (pg_name (i := 2) sc__law_due.nd rfl (Or.inl rfl)) pgs_nil))))
      (pss_cons (ps_for PassesOwn.never rfl (pi_itemsN (pv 0)) (pg_tup (n := 2) rfl (pgs_cons (pg_name (i := 3) sc__law_due.nd rfl (Or.inl rfl)) (pgs_cons (pg_name (i := 4) sc__law_due.nd rfl (Or.inr rfl)) pgs_nil))) (pss_cons (ps_asg (pe_tup (pa_cons (pv 1) (pa_cons (pe_lst pa_nil) pa_nil))) (pg_tup (n := 2) rfl (pgs_cons (pg_sub (pv 2) (pv 3) (set_dict (hu_of hr))) (pgs_cons (pg_name (i := 5) sc__law_due.nd rfl (Or.inl rfl)) pgs_nil))))
      (pss_cons (ps_if (PW.pt (pw_or (PW.pt (pw_and (pt_cmpR dEq (pe_ix dIx (pv 4) pe_int (fun _ _ => rfl)) pe_str (nomark _)) (pw_and1 (pt_cmp (pc_dnotin (hu_of hr) (pe_ix dIx (pv 4) pe_int (fun _ _ => rfl)) (pv 0)))))) (pw_or1 (PW.pt (pw_and (pt_cmpR dEq (pe_ix dIx (pv 4) pe_int (fun _ _ => rfl)) pe_str (nomark _)) (pw_and1 (pt_tru (pe_fz (pe_lc (own := [("_law_m", 9)]) (g := gName 9) (by rfl) sc__law_due.nd (pi_tup (pe_ix dIx (pv 4) pe_int (fun _ _ => rfl))) (blkOk_by (own := [("_law_m", 9)]) (N := ["_law_lore_here", "_law_line", "_law_firsts", "_law_name", "_law_form", "_law_bad", "_law_rings", "_law_at", "_law_row", "_law_m"]) (sc := defScope s__law_due) (by decide +kernel)) (fun _ _ _ _ _ => (pg_name (i := 9) sc__law_due.nd rfl (Or.inl rfl))) (fun _ _ _ _ _ => (pts_one (pt_cmp (pc_dnotin (hu_of hr) (pv 9) (pv 0))))) (fun _ _ _ _ _ => (pv 9)))) (fun _ => rfl)))))))) (pss_one (ps_expr (pe_bm PySem.F.plainAttrs_list PySem.F.slot_list_append PySem.F.type_list_append mt_append (pv 5) (pa_cons (pv 1) pa_nil)))) pss_nil)
      (pss_cons (ps_if (pt_cmpR dEq (pe_ix dIx (pv 4) pe_int (fun _ _ => rfl)) pe_str (nomark _)) (pss_one (ps_setLc (i := 5) (own := [("_law_at", 7), ("_law_row", 8)]) (g := gTup K 2 (gCons (gName 7) (gCons (gName 8) (gNil)))) (by rfl) sc__law_due.nd rfl rfl (sw_true rfl rfl rfl (by decide +kernel)) (pi_enum1 (by rfl) T.n_enumerate (pa_cons (pe_ix dIx (pv 4) pe_int (fun _ _ => rfl)) pa_nil)) (blkOk_by (own := [("_law_at", 7), ("_law_row", 8)]) (N := ["_law_lore_here", "_law_line", "_law_firsts", "_law_name", "_law_form", "_law_bad", "_law_rings", "_law_at", "_law_row", "_law_m"]) (sc := defScope s__law_due) (by decide +kernel)) (fun _ _ _ _ _ => (pg_tup (n := 2) rfl (pgs_cons (pg_name (i := 7) sc__law_due.nd rfl (Or.inl rfl)) (pgs_cons (pg_name (i := 8) sc__law_due.nd rfl (Or.inl rfl)) pgs_nil)))) (fun _ _ _ _ _ => (pts_one (pt_cmp (pc_dnotin (hu_of hr) (pe_ix dIx (pv 8) pe_int (fun _ _ => rfl)) (pv 0))))) (fun _ _ _ _ _ => (pe_op dAddX (pe_op dAddX (pv 1) pe_int) (pv 7))))) pss_nil)
      (pss_cons (ps_if (pt_cmpR dEq (pe_ix dIx (pv 4) pe_int (fun _ _ => rfl)) pe_str (nomark _)) (pss_one (ps_setLc (i := 5) (own := [("_law_at", 7), ("_law_row", 8)]) (g := gTup K 2 (gCons (gName 7) (gCons (gName 8) (gNil)))) (by rfl) sc__law_due.nd rfl rfl (sw_true rfl rfl rfl (by decide +kernel)) (pi_enum1 (by rfl) T.n_enumerate (pa_cons (pe_ix dIx (pv 4) pe_int (fun _ _ => rfl)) pa_nil)) (blkOk_by (own := [("_law_at", 7), ("_law_row", 8)]) (N := ["_law_lore_here", "_law_line", "_law_firsts", "_law_name", "_law_form", "_law_bad", "_law_rings", "_law_at", "_law_row", "_law_m"]) (sc := defScope s__law_due) (by decide +kernel)) (fun _ _ _ _ _ => (pg_tup (n := 2) rfl (pgs_cons (pg_name (i := 7) sc__law_due.nd rfl (Or.inl rfl)) (pgs_cons (pg_name (i := 8) sc__law_due.nd rfl (Or.inl rfl)) pgs_nil)))) (fun _ _ _ _ _ => (pts_one (pt_not (pt_val (pe_call G__law_is_line (hr.mono (by first | decide | omega)) (by rfl) T.m__law_is_line T.F__law_is_line.kp T.b__law_is_line .nil pass0 (pa_cons (pv 0) (pa_cons (pe_ix dIx (pv 8) pe_int (fun _ _ => rfl)) (pa_cons (pe_ix dIx (pv 4) pe_int (fun _ _ => rfl)) pa_nil)))))))) (fun _ _ _ _ _ => (pe_op dAddX (pe_op dAddX (pv 1) pe_int) (pv 7))))) pss_nil)
      (pss_cons (ps_if (pt_cmpR (op_neL0 (Nat.lt_of_le_of_lt (Nat.le_add_right _ _) hr.units)) (pv 5) (pe_lst pa_nil) (nomark _)) (pss_one (ps_ret (pe_tup (pa_cons pe_str (pa_cons (pe_ix ix_list (pv 5) pe_int (fun _ _ => rfl)) pa_nil))))) pss_nil)
      (pss_one (ps_set (i := 1) sc__law_due.nd rfl (Or.inr rfl) (pe_op dAddX (pv 1) (pe_callB dLen (by rfl) T.n_len PyProof.Rows.Boot.«len» (pa_cons (pe_call G__law_kind_lines (hr.mono (by first | decide | omega)) (by rfl) T.m__law_kind_lines T.F__law_kind_lines.kp T.b__law_kind_lines .nil pass0 (pa_cons (pv 3) (pa_cons (pv 4) pa_nil))) pa_nil)))))))))))
      (pss_cons (ps_fzS (i := 6) (ps_setLc (i := 6) (own := [("_law_name", 3)]) (g := gName 3) (by rfl) sc__law_due.nd rfl rfl (sw_true rfl rfl rfl (by decide +kernel)) (pi_keys (pv 0)) (blkOk_by (own := [("_law_name", 3)]) (N := ["_law_lore_here", "_law_line", "_law_firsts", "_law_name", "_law_form", "_law_bad", "_law_rings", "_law_at", "_law_row", "_law_m"]) (sc := defScope s__law_due) (by decide +kernel)) (fun _ _ _ _ _ => (pg_name (i := 3) sc__law_due.nd rfl (Or.inl rfl))) (fun _ _ _ _ _ => (pts_one (PW.pt (pw_and (pt_cmpR dEq (pe_ix dIx (pe_dget (hu_of hr) (pv 0) (pv 3) (fun _ _ => rfl)) pe_int (fun _ _ => rfl)) pe_str (nomark _)) (pw_and1 (pt_cmpR dInX (pv 3) (pe_call G__law_behind (hr.mono (by first | decide | omega)) (by rfl) T.m__law_behind T.F__law_behind.kp T.b__law_behind .nil pass0 (pa_cons (pv 0) (pa_cons (pv 3) pa_nil))) (by rfl))))))) (fun _ _ _ _ _ => (pv 3))))
      (pss_one (ps_ret (pe_ifExp (pt_cmpR (dNeD (h64 hr)) (pv 6) (pe_fz (pe_lst pa_nil)) (nomark _)) (pe_tup (pa_cons pe_str (pa_cons (pe_lk 2 (pe_dget (hu_of hr) (pv 2) (pe_ix dIx (pv 6) pe_int (fun _ _ => rfl)) (fun _ _ => rfl))) pa_nil))) pe_non)))))), inferInstance, ?_⟩)
  · obtain ⟨fs, rfl, _⟩ := h
    rfl
  obtain ⟨fs, rfl, g, k⟩ := h
  generalize hT : DSeq (DIfS (DB (DNe0 5)) _ _) _ = UT
  generalize hR : DSeq (DFzS 6 _) _ = UR
  generalize hc1 : DLc (ITup _) _ _ _ _ _ = C1
  generalize hc2 : DLc (IEn1 _) _ _ (DB _) _ _ = C2
  generalize hc3 : DLc (IEn1 _) _ _ (DNot _) _ _ = C3
  generalize hS4 : DSeq (DIfS _ (DSetN 5 C3) _) UT = US4
  generalize hS3 : DSeq (DIfS _ (DSetN 5 C2) _) US4 = US3
  generalize hB : DSeq (DPutNew 2 5 _ _) _ = UB
  unfold encD
  walk_at "d"
  rw [items_enc]
  refine ⟨fun i ρ => ∃ x3 x4 x5 x6 x7 x8 x9, ρ = [some (.d (encD fs)), some (.d (.int (1 + (linesOf (fs.take i)).length))), some (.m (strP (firstsP ((rowsOf 1 fs).take i)))), x3, x4, x5, x6, x7, x8, x9] ∧ namedGo fs (rowsOf 1 fs) = namedGo fs ((rowsOf 1 fs).drop i), ⟨none, none, none, none, none, none, none, rfl, rfl⟩, ?_, ?_⟩
  · rintro i y ρ hy ⟨x3, x4, x5, x6, x7, x8, x9, rfl, hg⟩
    obtain ⟨r, hr2, rfl⟩ := map_at hy
    have hm := List.mem_of_getElem? hr2
    have hrow := rows_get fs 1 i r hr2
    have hst := named_step (fs := fs) hrow
    have hput := firsts_put g.nd hrow
    have hi := (List.getElem?_eq_some_iff.mp hr2).1
    obtain ⟨x, f⟩ := r
    dsimp only at hrow hst hput hm
    have hx := g.nm _ hm
    have gf := g.gf _ hm
    dsimp only at hx gf
    have few := g.few
    generalize hn : (1 + ((linesOf (fs.take i)).length : Nat) : Int) = n at hrow hst hput ⊢
    have body : ∀ (DD : DEnds) (x3 x4 x5 x6 x7 x8 x9 : Option DV), (∀ (bd : List PyData) (x6 x7 x8 x9 : Option DV), bd.head? = (named1 fs n f).map .int → UT DD [some (.d (encD fs)), some (.d (.int n)), some (.m (strP (firstsP ((rowsOf 1 fs).take (i + 1))))), some (.d (.str x)), some (.d (encF f)), some (.l bd), x6, x7, x8, x9]) →
        UB DD [some (.d (encD fs)), some (.d (.int n)), some (.m (strP (firstsP ((rowsOf 1 fs).take i)))), some (.d (.str x)), some (.d (encF f)), x5, x6, x7, x8, x9] := by
      intro DD x3 x4 x5 x6 x7 x8 x9 tail
      have hkl : (firstsP ((rowsOf 1 fs).take i)).length < 1000000 := by
        unfold firstsP
        rw [List.length_map, List.length_take]
        omega
      have pass4 : ∀ (f : Form) (bd : List PyData) (m : DV) (x6 x7 x8 x9 : Option DV), tagF f ≠ Str.ofString "tagged" → UT DD [some (.d (encD fs)), some (.d (.int n)), some m, some (.d (.str x)), some (.d (encF f)), some (.l bd), x6, x7, x8, x9] → US4 DD [some (.d (encD fs)), some (.d (.int n)), some m, some (.d (.str x)), some (.d (encF f)), some (.l bd), x6, x7, x8, x9] := by
        intro f bd m x6 x7 x8 x9 h1 h2
        rw [← hS4]
        rw [encF_tag] at h2 ⊢
        walk_at "d"
        refine ⟨_, at_0 _ _, ?_⟩
        dsimp only
        rw [if_neg (by rw [decide_eq_true_eq]; exact h1)]
        exact h2
      have pass3 : ∀ (f : Form) (bd : List PyData) (m : DV) (x6 x7 x8 x9 : Option DV), tagF f ≠ Str.ofString "record" → US4 DD [some (.d (encD fs)), some (.d (.int n)), some m, some (.d (.str x)), some (.d (encF f)), some (.l bd), x6, x7, x8, x9] → US3 DD [some (.d (encD fs)), some (.d (.int n)), some m, some (.d (.str x)), some (.d (encF f)), some (.l bd), x6, x7, x8, x9] := by
        intro f bd m x6 x7 x8 x9 h1 h2
        rw [← hS3]
        rw [encF_tag] at h2 ⊢
        walk_at "d"
        refine ⟨_, at_0 _ _, ?_⟩
        dsimp only
        rw [if_neg (by rw [decide_eq_true_eq]; exact h1)]
        exact h2
      have first : ∀ (f : Form), tagF f ≠ Str.ofString "list" → tagF f ≠ Str.ofString "either" → (∀ x6 x7 x8 x9 : Option DV, US3 DD [some (.d (encD fs)), some (.d (.int n)), some (.m (strP (firstsP ((rowsOf 1 fs).take (i + 1))))), some (.d (.str x)), some (.d (encF f)), some (.l []), x6, x7, x8, x9]) → UB DD [some (.d (encD fs)), some (.d (.int n)), some (.m (strP (firstsP ((rowsOf 1 fs).take i)))), some (.d (.str x)), some (.d (encF f)), x5, x6, x7, x8, x9] := by
        intro f h1 h2 h3
        rw [← hB]
        rw [encF_tag] at h3 ⊢
        walk_at "d"
        refine ⟨firstsP ((rowsOf 1 fs).take i), rfl, hkl, ?_⟩
        rw [hput]
        refine ⟨_, at_0 _ _, ?_⟩
        dsimp only
        rw [if_neg (by rw [decide_eq_true_eq]; exact h1)]
        refine ⟨_, at_0 _ _, ?_⟩
        dsimp only
        rw [if_neg (by rw [decide_eq_true_eq]; exact h2)]
        exact h3 _ _ _ _
      cases f with
      | list kd lo hi =>
        have fin : ∀ bd, bd.head? = (named1 fs n (.list kd lo hi)).map .int → US3 DD [some (.d (encD fs)), some (.d (.int n)), some (.m (strP (firstsP ((rowsOf 1 fs).take (i + 1))))), some (.d (.str x)), some (.d (encF (.list kd lo hi))), some (.l bd), x6, x7, x8, x9] := fun bd hb => pass3 _ _ _ _ _ _ _ (by simp only [tagF]; decide) (pass4 _ _ _ _ _ _ _ (by simp only [tagF]; decide) (tail bd _ _ _ _ hb))
        rw [← hB]
        simp only [encF] at fin ⊢
        walk_at "d"
        simp only [at_0, at_1, at_2, at_3, Option.some.injEq, exists_eq_left']
        refine ⟨firstsP ((rowsOf 1 fs).take i), rfl, hkl, ?_⟩
        rw [hput, if_pos (by decide)]
        refine ⟨encP fs, rfl, ?_⟩
        dsimp only
        rw [look_has]
        cases hh : hasF fs kd with
        | false =>
          rw [if_pos (by decide)]
          exact ⟨by decide, fin [.int n] (by simp [named1, hh])⟩
        | true =>
          rw [if_neg (by decide), if_neg (by decide)]
          exact fin [] (by simp [named1, hh])
      | either ms =>
        have fin : ∀ (bd : List PyData) (x6 x7 x8 x9 : Option DV), bd.head? = (named1 fs n (.either ms)).map .int → US3 DD [some (.d (encD fs)), some (.d (.int n)), some (.m (strP (firstsP ((rowsOf 1 fs).take (i + 1))))), some (.d (.str x)), some (.d (encF (.either ms))), some (.l bd), x6, x7, x8, x9] := fun bd x6 x7 x8 x9 hb => pass3 _ _ _ _ _ _ _ (by simp only [tagF]; decide) (pass4 _ _ _ _ _ _ _ (by simp only [tagF]; decide) (tail bd _ _ _ _ hb))
        rw [← hB]
        simp only [encF] at fin ⊢
        walk_at "d"
        simp only [at_0, at_1, at_2, at_3, Option.some.injEq, exists_eq_left']
        refine ⟨firstsP ((rowsOf 1 fs).take i), rfl, hkl, ?_⟩
        rw [hput, if_neg (by decide), if_pos (by decide), ← hc1]
        walk_at "d"
        refine ⟨_, at_1 _ _ _, ?_⟩
        dsimp only
        refine lc_filter id (fun d => !hasD fs d) (fun j y hy Q Qn hQ hN => ?_) ?_ (by rw [List.length_map]; have := gf.2.1; omega)
        · obtain ⟨u, hu, rfl⟩ := map_strs hy
          walk_at "d"
          refine ⟨encP fs, rfl, ?_⟩
          dsimp only
          rw [look_has]
          cases hh : hasF fs u with
          | true =>
            rw [if_neg (by decide)]
            exact hN (by simp [hasD, hh]) _ rfl
          | false =>
            rw [if_pos (by decide)]
            exact hQ (by simp [hasD, hh]) _ rfl
        · rw [List.map_id]
          walk_at "d"
          have hq : (((ms.map PyData.str).filter fun d => !hasD fs d).isEmpty) = ms.all (hasF fs) := by
            rw [List.filter_map, List.isEmpty_map, Bool.eq_iff_iff, List.isEmpty_iff, List.filter_eq_nil_iff, List.all_eq_true]
            constructor
            · intro h u hu
              have := h u hu
              simpa [hasD] using this
            · intro h u hu
              have := h u hu
              simp [hasD, this]
          rw [hq]
          cases hh : ms.all (hasF fs) with
          | false =>
            rw [if_pos (by decide)]
            exact ⟨by decide, fin [.int n] _ _ _ _ (by simp only [named1, hh]; rfl)⟩
          | true =>
            rw [if_neg (by decide)]
            exact fin [] _ _ _ _ (by simp only [named1, hh]; rfl)
      | record op rows =>
        refine first _ (by simp only [tagF]; decide) (by simp only [tagF]; decide) fun x6 x7 x8 x9 => ?_
        have fin : ∀ (bd : List PyData) (x6 x7 x8 x9 : Option DV), bd.head? = (named1 fs n (.record op rows)).map .int → US4 DD [some (.d (encD fs)), some (.d (.int n)), some (.m (strP (firstsP ((rowsOf 1 fs).take (i + 1))))), some (.d (.str x)), some (.d (encF (.record op rows))), some (.l bd), x6, x7, x8, x9] := fun bd x6 x7 x8 x9 hb => (pass4 _ _ _ _ _ _ _ (by simp only [tagF]; decide) (tail bd _ _ _ _ hb))
        have hf := bad_first (fun r : Str × Str × Bool => hasF fs r.2.1) encRec unRec (fun _ => rfl) n rows 0
        rw [← hS3]
        simp only [encF] at fin ⊢
        walk_at "d"
        refine ⟨_, at_0 _ _, ?_⟩
        dsimp only
        rw [if_pos (by decide), ← hc2]
        walk_at "d"
        refine ⟨_, at_2 _ _ _ _, ?_⟩
        dsimp only
        refine lc_filter (badF n) (badK (fun r : Str × Str × Bool => hasF fs r.2.1) unRec) (fun j y hy Q Qn hQ hN => ?_) ?_ (by rw [enums_len, List.length_map]; have := gf.2.1; omega)
        · obtain ⟨z, hz, rfl⟩ := enums_at hy
          obtain ⟨r, hr2, rfl⟩ := map_at hz
          walk_at "d"
          refine ⟨.str r.2.1, at_1 _ _ _, encP fs, rfl, ?_⟩
          dsimp only
          rw [look_has]
          cases hh : hasF fs r.2.1 with
          | true =>
            rw [if_neg (by decide)]
            exact hN (by simp [badK, unRec, hh]) _ rfl
          | false =>
            rw [if_pos (by decide)]
            exact hQ (by simp [badK, unRec, hh]) _ rfl
        · walk_at "d"
          refine fin _ _ _ _ _ ?_
          rw [show n + 1 + 0 = n + 1 by omega] at hf
          exact hf
      | tagged fd rows =>
        refine first _ (by simp only [tagF]; decide) (by simp only [tagF]; decide) fun x6 x7 x8 x9 => ?_
        refine pass3 _ _ _ _ _ _ _ (by simp only [tagF]; decide) ?_
        have hf := bad_first (fun r : Str × Str => lineKind fs r.2 fd) (fun r => .tuple [.str r.1, .str r.2]) unTag (fun _ => rfl) n rows 0
        rw [← hS4]
        simp only [encF] at tail ⊢
        walk_at "d"
        refine ⟨_, at_0 _ _, ?_⟩
        dsimp only
        rw [if_pos (by decide), ← hc3]
        walk_at "d"
        refine ⟨_, at_2 _ _ _ _, ?_⟩
        dsimp only
        refine lc_filter (badF n) (badK (fun r : Str × Str => lineKind fs r.2 fd) unTag) (fun j y hy Q Qn hQ hN => ?_) ?_ (by rw [enums_len, List.length_map]; have := gf.2.2.1; omega)
        · obtain ⟨z, hz, rfl⟩ := enums_at hy
          obtain ⟨r, hr2, rfl⟩ := map_at hz
          walk_at "d"
          refine ⟨.str r.2, at_1 _ _ _, .str fd, at_1 _ _ _, fs, r.2, fd, rfl, fun q hq => gf_ok (g.gf q hq), ?_⟩
          dsimp only
          cases hh : lineKind fs r.2 fd with
          | true =>
            rw [if_neg (by decide)]
            exact hN (by simp [badK, unTag, hh]) _ rfl
          | false =>
            rw [if_pos (by decide)]
            exact hQ (by simp [badK, unTag, hh]) _ rfl
        · walk_at "d"
          refine tail _ _ _ _ _ ?_
          rw [show n + 1 + 0 = n + 1 by omega] at hf
          exact hf
      | bare wd =>
        have h4 : tagF (.bare wd) ∉ [Str.ofString "list", Str.ofString "either", Str.ofString "record", Str.ofString "tagged"] := by
          rcases gf with e | e | e <;> (subst e; decide +kernel)
        simp only [List.mem_cons, List.not_mem_nil, or_false, not_or] at h4
        exact first _ h4.1 h4.2.1 fun _ _ _ _ => pass3 _ _ _ _ _ _ _ h4.2.2.1 (pass4 _ _ _ _ _ _ _ h4.2.2.2 (tail [] _ _ _ _ rfl))
      | int lo hi => exact first _ (by simp only [tagF]; decide) (by simp only [tagF]; decide) fun _ _ _ _ => pass3 _ _ _ _ _ _ _ (by simp only [tagF]; decide) (pass4 _ _ _ _ _ _ _ (by simp only [tagF]; decide) (tail [] _ _ _ _ rfl))
      | word ws => exact first _ (by simp only [tagF]; decide) (by simp only [tagF]; decide) fun _ _ _ _ => pass3 _ _ _ _ _ _ _ (by simp only [tagF]; decide) (pass4 _ _ _ _ _ _ _ (by simp only [tagF]; decide) (tail [] _ _ _ _ rfl))
    walk_at "d"
    refine body _ none none _ _ _ _ _ ?_
    intro bd x6 x7 x8 x9 hb
    rw [← hT]
    walk_at "d"
    rw [hst] at hg
    cases hb1 : named1 fs n f with
    | some m =>
      rw [hb1] at hb hg
      cases bd with
      | nil => cases hb
      | cons b r =>
        injection hb with hb
        subst hb
        rw [if_pos (by rfl)]
        refine ⟨_, at_0 _ _, ?_⟩
        unfold dueD at k
        rw [hg] at k
        exact k
    | none =>
      rw [hb1] at hb hg
      cases bd with
      | cons b r => cases hb
      | nil =>
        rw [if_neg (by decide)]
        refine ⟨x, f, rfl, hx, gf, ?_⟩
        dsimp only
        have e : n + (((kindLines x f).map PyData.str).length : Nat) = 1 + ((linesOf (fs.take (i + 1))).length : Nat) := by
          rw [lines_take hr2, List.length_append, List.length_map, ← hn]
          dsimp only
          omega
        rw [e]
        exact ⟨_, _, _, _, _, _, _, rfl, hg⟩
  · rintro ρ ⟨x3, x4, x5, x6, x7, x8, x9, rfl, hg⟩
    have hlr : (rowsOf 1 fs).length = fs.length := by
      have := congrArg List.length (rows_names fs 1)
      rw [List.length_map, List.length_map] at this
      exact this
    have few := g.few
    rw [List.length_map, show (rowsOf 1 fs).take fs.length = rowsOf 1 fs from List.take_of_length_le (by omega)]
    rw [List.length_map, List.drop_of_length_le (by omega)] at hg
    have hg : namedGo fs (rowsOf 1 fs) = none := hg
    have cl : Closed fs := by
      have ho := kinds_ok (page_ok g).2.1 (rows := rowsOf 1 fs) (by rw [split_page g]; exact kinds_page g)
      have := closed_of ho.1 (by omega) (by rw [forms_rows]; exact hg)
      rw [forms_rows] at this
      exact this
    have hlk : ∀ r ∈ rowsOf 1 fs, lookF r.1 fs = some r.2.1 := fun r hr => by
      have h1 : (r.1, r.2.1) ∈ fs := by
        have := forms_rows fs 1
        rw [← this]
        exact List.mem_map.mpr ⟨r, hr, rfl⟩
      exact lookF_of g.nd h1
    have hfl : ∀ r ∈ rowsOf 1 fs, lookP r.1 (firstsP (rowsOf 1 fs)) = some (.int r.2.2) := fun r hr => firsts_look (by rw [rows_names]; exact g.nd) hr
    rw [← hR]
    walk_at "d"
    refine ⟨encP fs, rfl, ?_⟩
    refine lc_filter id (keepE fs) (fun j y hy Q Qn hQ hN => ?_) ?_ (by rw [List.length_map]; unfold encP; rw [List.length_map]; omega)
    · rw [show ((encP fs).map fun p => PyData.str p.1) = (fs.map (·.1)).map .str by unfold encP; rw [List.map_map, List.map_map]; rfl] at hy
      obtain ⟨u, hu, rfl⟩ := map_strs hy
      have hum := List.mem_of_getElem? hu
      have huF : hasF fs u = true := decide_eq_true hum
      obtain ⟨f, hf⟩ : ∃ f, lookF u fs = some f := by
        unfold hasF at huF
        rw [← lookF_some] at huF
        exact Option.isSome_iff_exists.mp huF
      walk_at "d"
      refine ⟨encP fs, rfl, encF f, by rw [look_enc, hf]; rfl, ?_⟩
      rw [encF_tag]
      refine ⟨.str (tagF f), at_0 _ _, ?_⟩
      dsimp only
      have fo := cl.ok _ (lookF_mem hf)
      by_cases he : isEither f = true
      · rw [if_pos (decide_eq_true (tag_either fo he))]
        refine ⟨fs, u, rfl, cl, huF, fun zs hz1 hz2 => ?_⟩
        dsimp only
        have e3 := in_strs u zs
        simp only [inF, eqF] at e3
        refine ⟨fl_strs _, ?_⟩
        rw [e3]
        have e4 : decide (u ∈ zs) = hasRing fs u := by
          unfold hasRing
          rw [decide_eq_decide]
          exact hz1 u
        rw [e4]
        have ek : keepE fs (.str u) = hasRing fs u := by simp only [keepE, hf, he, Bool.true_and]
        cases hh : hasRing fs u with
        | true =>
          rw [if_pos rfl]
          exact hQ (by rw [ek, hh]) _ rfl
        | false =>
          rw [if_neg (by decide)]
          exact hN (by rw [ek, hh]) _ rfl
      · rw [if_neg (by rw [decide_eq_true_eq]; exact fun q => he (either_tag fo q))]
        exact hN (by simp only [keepE, hf]; rw [Bool.eq_false_iff.mpr he]; rfl) _ rfl
    · rw [List.map_id]
      rw [show ((encP fs).map fun p => PyData.str p.1) = (rowsOf 1 fs).map fun r => PyData.str r.1 by
        have := congrArg (List.map PyData.str) (rows_names fs 1)
        rw [List.map_map] at this
        rw [show ((encP fs).map fun p => PyData.str p.1) = (fs.map (·.1)).map .str by unfold encP; rw [List.map_map, List.map_map]; rfl, ← this]
        rfl]
      have hrh := ring_head (fs := fs) (rowsOf 1 fs) hlk
      unfold dueD at k
      rw [hg] at k
      dsimp only at k
      have hst : ∃ ws : List Str, (((rowsOf 1 fs).map fun r => PyData.str r.1).filter (keepE fs)) = ws.map .str ∧ ∀ w ∈ ws, PyData.strOk w = true := by
        refine ⟨((rowsOf 1 fs).map (·.1)).filter (keepE fs ∘ PyData.str), ?_, fun w hw => ?_⟩
        · rw [← List.filter_map, List.map_map]
          rfl
        · have hw := (List.mem_filter.mp hw).1
          rw [rows_names] at hw
          obtain ⟨r, hr, rfl⟩ := List.mem_map.mp hw
          exact nm_strOk (g.nm r hr)
      generalize ((rowsOf 1 fs).map fun r => PyData.str r.1).filter (keepE fs) = rings at hrh hst ⊢
      obtain ⟨ws, rfl, hws⟩ := hst
      walk_at "d"
      refine ⟨okE_strs hws, okE_nil, ?_⟩
      rw [eqv_nil]
      rcases hrh with ⟨h1, h2⟩ | ⟨r, hr, h1, h2⟩
      · have hw0 : ws = [] := List.map_eq_nil_iff.mp h1
        rw [if_neg (by rw [hw0]; decide)]
        rw [h2] at k
        exact k
      · cases ws with
        | nil => cases h1
        | cons u us =>
          have e : u = r.1 := by
            injection h1 with h1
            injection h1
          subst e
          rw [if_pos (by simp)]
          refine ⟨_, at_0 _ _, firstsP (rowsOf 1 fs), rfl, ?_⟩
          rw [h2] at k
          exact ⟨_, hfl r hr, rfl, k⟩
end
end Bk
end
section
--@@ genb
set_option Elab.async false
set_option linter.all false
set_option maxRecDepth 100000
set_option maxHeartbeats 4000000
set_option pp.maxSteps 2500
set_option synthInstance.maxHeartbeats 4000000
set_option synthInstance.maxSize 100000
namespace Bk
open PySem PySem.Spec PyProof.Rows L2 Tg Dw En
local macro_rules | `(tactic| walk_at "d") => `(tactic| simp (maxSteps := 4000000) only [IEn1, DInO, DTru, DPop0, DVar, DCon, DLock, DLockV, DCons, DNil, DOp, DOpN, DUn, DTup, DLst, DCB, DCBN, DMt, DMtN, isB, DB, DNot, DAnd, DOr, DAndV, DOrV, DNotV, DIf, DChain, DNext, DSeq, DIfS, DRet, DDrop, DSet, DSetN, GName, GNil, GCons, GTup, DAsgG, DPar, isL, isT, isS, isI, IList, ITup, IStr, IRng1, IRng2, DFor, DLc, DYes, RInt, RIntC, RStr, RCatS, eqC, REq, RNe, isNone, RIsN, RNotN, RInS, RIx, RSlS, ONone, OSome, DSl, DSlN, on1, on2, RLen, RIntOf, RIntS, RStrI, RAbs, RMin2, RMax2, RAll, RAny, NList, RTuple, RReprD, MStarts, MFind, MJoin, tyB, DIs, DIs3, DApp, DCall, DCallX, DRaise, startD, RAdd, RLe, RInX, NCat, RMulX, NSlL, DFzS, DAug, DCallP, startP, wipeD, IItems, DDGet, DDIn, NSortedD, NListD, MDict, DCBM, DParND, DParNN, DPar3N, DPar3, GPut, DPeek, DNe0, DPop, DLenO, DPar3M, DRepl, DDisp1, DNone1, DLam, kD, DMatch, DArms, NSplit, NSortedS, DStar, DDc, flD, inF, eqF, DPeek1, restS, pickS, DLenSet, DSortSet, RDeq, RDne, RDin, DLc2, IEnAt, IKeys, IEnum, IZip, MStarts1, DStarC, DStarS, isStr, ISeq, RCatT, RSlT, RSum, MJoin2, NRep, DParDN, DExt, DListItems, GLst, DPar3DNN, DPutNew, List.length_cons, List.length_nil, List.map_cons, List.map_nil, List.replicate_succ, List.replicate_zero, List.cons_append, List.nil_append, List.getElem?_cons_zero, List.getElem?_cons_succ, List.set_cons_zero, List.set_cons_succ, Nat.reduceAdd, Nat.reduceSub, Nat.zero_add, Bool.not_true, Bool.not_false, Bool.false_eq_true, if_true, if_false, reduceIte, reduceCtorEq, beq_self_eq_true, Bool.true_or, Bool.or_true, Bool.false_or, Bool.or_false, String.reduceBEq, Option.some.injEq, false_and, and_false, exists_const, true_and, and_true, PyData.str.injEq, exists_eq', exists_eq_left', Nat.reduceLeDiff, DV.l.injEq, DV.m.injEq, DV.pot.injEq, List.all_cons, List.all_nil, List.any_cons, List.any_nil, Bool.and_self, Bool.and_true, Bool.true_and, List.zipWith_cons_cons, List.zipWith_nil_right])
theorem merge_nd : ∀ (more kvs : List (Str × PyData)), (kvs.map (·.1) ++ more.map (·.1)).Nodup → mergeP kvs more = kvs ++ more
  | [], kvs, _ => by rw [List.append_nil]; rfl
  | (x, d) :: more, kvs, nd => by
    show mergeP (putP kvs x d) more = _
    have hx : x ∉ kvs.map (·.1) := fun q => by
      rw [List.nodup_append] at nd
      exact nd.2.2 x q x (by simp) rfl
    rw [putP_new hx, merge_nd more (kvs ++ [(x, d)]) (by rw [List.map_append, List.append_assoc]; exact nd), List.append_assoc]
    rfl
theorem enc_names (fs : Forms) : (encP fs).map (·.1) = fs.map (·.1) := by unfold encP; rw [List.map_map]; rfl
theorem enc_put {fs : Forms} {x : Str} {f : Form} (h : x ∉ fs.map (·.1)) : putP (encP fs) x (encF f) = encP (fs ++ [(x, f)]) := by
  rw [putP_new (by rw [enc_names]; exact h)]
  unfold encP
  rw [List.map_append]
  rfl
theorem noCL_of {l m : Bool} : ∀ {xs : List PyData}, (∀ x ∈ xs, noC l m x = true) → noCL l m xs = true
  | [], _ => rfl
  | x :: xs, h => by
    simp only [noCL, h x List.mem_cons_self, noCL_of fun y hy => h y (List.mem_cons_of_mem _ hy), Bool.and_self]
theorem noC_tup {l m : Bool} {xs : List PyData} (h : ∀ x ∈ xs, noC l m x = true) : noC l m (.tuple xs) = true := by
  simp only [noC]
  exact noCL_of h
theorem noC_lst {m : Bool} {xs : List PyData} (h : ∀ x ∈ xs, noC false m x = true) : noC false m (.list xs) = true := by
  simp only [noC, Bool.not_false, Bool.true_and]
  exact noCL_of h
theorem noC_strs {l m : Bool} (ws : List Str) : noC l m (.tuple (ws.map .str)) = true := noC_tup fun x hx => by
  obtain ⟨w, _, rfl⟩ := List.mem_map.mp hx
  rfl
theorem noC_encF (l m : Bool) (f : Form) : noC l m (encF f) = true := by
  rw [encF_tag]
  refine noC_tup fun x hx => ?_
  rcases List.mem_cons.mp hx with rfl | hx
  · rfl
  · cases f with
    | bare w => cases hx
    | int lo hi =>
      simp only [restF, List.mem_cons, List.not_mem_nil, or_false] at hx
      rcases hx with rfl | rfl <;> rfl
    | word ws =>
      rw [List.mem_singleton.mp hx]
      exact noC_strs ws
    | either ws =>
      rw [List.mem_singleton.mp hx]
      exact noC_strs ws
    | list k lo hi =>
      simp only [restF, List.mem_cons, List.not_mem_nil, or_false] at hx
      rcases hx with rfl | rfl | rfl
      · rfl
      · rfl
      · cases hi <;> rfl
    | record op rows =>
      simp only [restF, List.mem_cons, List.not_mem_nil, or_false] at hx
      rcases hx with rfl | rfl
      · rfl
      · refine noC_tup fun x hx => ?_
        obtain ⟨r, _, rfl⟩ := List.mem_map.mp hx
        rfl
    | tagged fd rows =>
      simp only [restF, List.mem_cons, List.not_mem_nil, or_false] at hx
      rcases hx with rfl | rfl
      · rfl
      · refine noC_tup fun x hx => ?_
        obtain ⟨r, _, rfl⟩ := List.mem_map.mp hx
        rfl
theorem noC_pairs {m : Bool} (fs : Forms) : noC false m (.list (pairsP (encP fs))) = true := noC_lst fun x hx => by
  unfold pairsP encP at hx
  rw [List.map_map] at hx
  obtain ⟨r, _, rfl⟩ := List.mem_map.mp hx
  refine noC_tup fun y hy => ?_
  simp only [List.mem_cons, List.not_mem_nil, or_false] at hy
  rcases hy with rfl | rfl
  · rfl
  · exact noC_encF _ _ r.2
theorem GoodL.turn {fs : Forms} (g : GoodL fs) (n : Nat) : GoodL (fs.drop n ++ fs.take n) := by
  have pm : (fs.drop n ++ fs.take n).Perm fs := by
    refine List.Perm.trans List.perm_append_comm ?_
    rw [List.take_append_drop]
  refine ⟨fun q => g.ne ?_, by rw [pm.length_eq]; exact g.few, (pm.map _).nodup_iff.mpr g.nd, fun r hr => g.nm r (pm.mem_iff.mp hr), fun r hr => g.gf r (pm.mem_iff.mp hr)⟩
  rw [q] at pm
  exact List.nil_perm.mp pm
def Big (fs : Forms) : Prop := ∃ r ∈ fs, isEither r.2 = true
theorem big_turn {fs : Forms} (g : Big fs) (n : Nat) : Big (fs.drop n ++ fs.take n) := by
  obtain ⟨r, hr, e⟩ := g
  refine ⟨r, ?_, e⟩
  rw [List.mem_append]
  have : r ∈ fs.take n ++ fs.drop n := by rw [List.take_append_drop]; exact hr
  exact (List.mem_append.mp this).symm
def SLo (p : Addr) (c : Int) (fs : Forms) (pl rc li tg ei ev : List Str) (x1 x2 x3 x5 x6 x13 x14 x15 x16 x17 x18 : Option DV) : DSt :=
  [some (.pot p c), x1, x2, x3, some (.m (strP (encP fs))), x5, x6, some (.d (.list (pl.map .str))), some (.d (.list (rc.map .str))), some (.d (.list (li.map .str))), some (.d (.list (tg.map .str))), some (.d (.list (ei.map .str))), some (.d (.list (ev.map .str))), x13, x14, x15, x16, x17, x18]
def DDp (p : Addr) (Kk : PyData → Int → Prop) : DEnds := { nx := fun ρ => ∃ c', ρ[0]? = some (some (.pot p c')) ∧ Kk .none c', rt := fun d ρ => ∃ c', ρ[0]? = some (some (.pot p c')) ∧ Kk d c' }
structure Parts (pl rc li tg ei : List Str) : Prop where
  ok : areNames (pl ++ (rc ++ (li ++ (tg ++ ei)))) = true
  l1 : pl.length = 3
  l2 : 2 ≤ rc.length ∧ rc.length ≤ 3
  l3 : li.length ≤ 1
  l4 : tg.length ≤ 2
  l5 : 1 ≤ ei.length ∧ ei.length ≤ 2
/-- the forms laid so far -/
structure Fill (fs : Forms) (L : List Str) : Prop where
  nm : fs.map (·.1) = L
  gf : ∀ r ∈ fs, gForm r.2
theorem Fill.put {fs : Forms} {L : List Str} {x : Str} {f : Form} (h : Fill fs L) (g : gForm f) : Fill (fs ++ [(x, f)]) (L ++ [x]) := by
  refine ⟨by rw [List.map_append, h.nm]; rfl, fun r hr => ?_⟩
  rcases List.mem_append.mp hr with q | q
  · exact h.gf r q
  · rw [List.mem_singleton.mp q]; exact g
theorem take_snoc {L M : List Str} {i : Nat} {z : Str} (h : M[i]? = some z) : L ++ M.take i ++ [z] = L ++ M.take (i + 1) := by
  rw [take_succ h, List.append_assoc]
theorem not_yet {L M N ws : List Str} (nd : ws.Nodup) (e : ws = L ++ (M ++ N)) {i : Nat} {z : Str} (h : M[i]? = some z) : z ∉ L ++ M.take i := by
  have hi := List.getElem?_eq_some_iff.mp h
  have e2 : M = M.take i ++ z :: M.drop (i + 1) := by rw [← hi.2, ← List.drop_eq_getElem_cons hi.1, List.take_append_drop]
  intro q
  rw [e, ← List.append_assoc, List.nodup_append] at nd
  have nd1 := nd.1
  rw [e2, ← List.append_assoc, List.nodup_append] at nd1
  exact nd1.2.2 z q z (by simp) rfl
theorem nd_pre {L M N ws : List Str} (nd : ws.Nodup) (e : ws = L ++ (M ++ N)) (i : Nat) : (L ++ M.take i).Nodup := nd.sublist (by
  rw [e]
  exact List.Sublist.append_left ((List.take_sublist i M).trans (List.sublist_append_left M N)) L)
theorem areNames_of {ws us : List Str} (h : areNames us = true) (hs : ∀ w ∈ ws, w ∈ us) (nd : ws.Nodup) : areNames ws = true := by
  unfold areNames
  rw [Bool.and_eq_true, List.all_eq_true, decide_eq_true_eq]
  exact ⟨fun w hw => are_mem h (hs w hw), nd⟩
section
variable {P : Program} {w : World} {K : PySem.W.Frag} {mg : Str → Option Value} {base : Heap}
def FLore : DP := fun c ds Kk => ds = [] ∧ c < 800000 ∧ ∀ (fs : Forms) (c' : Int), GoodL fs → Big fs → c' ≤ c + 600 → Kk (encD fs) c'
theorem ok_lore (T : Tx P K mg) : FnOk P w K mg base CX0 4 T.a__law_lore T.fd__law_lore ["_law_pot"] (spP FLore) := by
  have G__law_of := okP_of (w := w) (base := base) T
  have G__law_take := okP_take (w := w) (base := base) T
  have G__law_unlike := ok_unl (w := w) (base := base) T
  have G__law_plain := ok_plain (w := w) (base := base) T
  have G__law_record := ok_record (w := w) (base := base) T
  have G__law_list := ok_list (w := w) (base := base) T
  have G__law_tagged := ok_tagged (w := w) (base := base) T
  refine Dw.okP T.F__law_lore sc__law_lore (by decide) (fun c ds Kk h => ?_) (fun cdv A outer s H E p c ds Kk hr h => ⟨_, _, (pss_cons (ps_set (i := 1) sc__law_lore.nd rfl (Or.inl rfl) (pe_fz (pe_lst (pa_cons pe_str (pa_cons pe_str (pa_cons pe_str (pa_cons pe_str (pa_cons pe_str (pa_cons pe_str (pa_cons pe_str (pa_cons pe_str (pa_cons pe_str (pa_cons pe_str (pa_cons pe_str (pa_cons pe_str (pa_cons pe_str pa_nil))))))))))))))))
      (pss_cons (ps_set (i := 1) sc__law_lore.nd rfl (Or.inl rfl) (pe_fz (pe_op dCat (pv 1) (pe_fz (pe_lst (pa_cons pe_str (pa_cons pe_str (pa_cons pe_str pa_nil))))))))
      (pss_cons (ps_set (i := 2) sc__law_lore.nd rfl (Or.inl rfl) (pe_fz (pe_lst (pa_cons pe_int (pa_cons (pe_op dAddX pe_int (pe_call G__law_take (hr.mono (by first | decide | omega)) (by rfl) T.m__law_take T.F__law_take.kp T.b__law_take .nil pass0 (pa_cons (pv 0) (pa_cons pe_int pa_nil)))) (pa_cons (pe_call G__law_take (hr.mono (by first | decide | omega)) (by rfl) T.m__law_take T.F__law_take.kp T.b__law_take .nil pass0 (pa_cons (pv 0) (pa_cons pe_int pa_nil))) (pa_cons (pe_call G__law_of (hr.mono (by first | decide | omega)) (by rfl) T.m__law_of T.F__law_of.kp T.b__law_of .nil pass0 (pa_cons (pv 0) (pa_cons (pe_fz (pe_lst (pa_cons pe_int (pa_cons pe_int (pa_cons pe_int (pa_cons pe_int pa_nil)))))) pa_nil))) (pa_cons (pe_op dAddX pe_int (pe_call G__law_take (hr.mono (by first | decide | omega)) (by rfl) T.m__law_take T.F__law_take.kp T.b__law_take .nil pass0 (pa_cons (pv 0) (pa_cons pe_int pa_nil)))) pa_nil))))))))
      (pss_cons (ps_par3 (i := 3) (j := 4) (l := 5) (by rfl) sc__law_lore.nd rfl rfl rfl (by decide) (by decide) (by decide) rfl rfl rfl (pa_cons (pe_call G__law_unlike (hr.mono (by first | decide | omega)) (by rfl) T.m__law_unlike T.F__law_unlike.kp T.b__law_unlike .nil pass0 (pa_cons (pv 0) (pa_cons (pv 1) (pa_cons (pe_callB (dSum rfl) (by rfl) T.n_sum PyProof.Rows.Boot.«sum» (pa_cons (pv 2) pa_nil)) pa_nil)))) (pa_cons pe_dnewK (pa_cons (pe_lst pa_nil) pa_nil))) (by rfl))
      (pss_cons (ps_for PassesOwn.never rfl (pi_list (pv 2)) (pg_name (i := 6) sc__law_lore.nd rfl (Or.inl rfl)) (pss_cons (ps_expr (pe_bm PySem.F.plainAttrs_list PySem.F.slot_list_append PySem.F.type_list_append mt_append (pv 5) (pa_cons (pe_fz (pe_slice dSlL (pv 3) po_none (po_some (pv 6)))) pa_nil)))
      (pss_one (ps_set (i := 3) sc__law_lore.nd rfl (Or.inl rfl) (pe_fz (pe_slice dSlL (pv 3) (po_some (pv 6)) po_none))))))
      (pss_cons (ps_asg (pe_fz (pv 5)) (pg_tupL (n := 5) rfl (pgs_cons (pg_name (i := 7) sc__law_lore.nd rfl (Or.inl rfl)) (pgs_cons (pg_name (i := 8) sc__law_lore.nd rfl (Or.inl rfl)) (pgs_cons (pg_name (i := 9) sc__law_lore.nd rfl (Or.inl rfl)) (pgs_cons (pg_name (i := 10) sc__law_lore.nd rfl (Or.inl rfl)) (pgs_cons (pg_name (i := 11) sc__law_lore.nd rfl (Or.inl rfl)) pgs_nil)))))))
      (pss_cons (ps_set (i := 12) sc__law_lore.nd rfl (Or.inl rfl) (pe_fz (pe_op dCat (pe_fz (pe_op dCat (pe_fz (pe_op dCat (pe_fz (pe_op dCat (pe_fz (pe_op dRep (pv 7) pe_int)) (pv 8))) (pv 9))) (pv 10))) (pv 11))))
      (pss_cons (ps_for PassesOwn.never rfl (pi_list (pv 7)) (pg_name (i := 13) sc__law_lore.nd rfl (Or.inl rfl)) (pss_one (ps_asg (pe_call G__law_plain (hr.mono (by first | decide | omega)) (by rfl) T.m__law_plain T.F__law_plain.kp T.b__law_plain .nil pass0 (pa_cons (pv 0) pa_nil)) (pg_sub (pv 4) (pv 13) (set_dict (hu_of hr))))))
      (pss_cons (ps_for PassesOwn.never rfl (pi_list (pv 8)) (pg_name (i := 13) sc__law_lore.nd rfl (Or.inl rfl)) (pss_one (ps_asg (pe_call G__law_record (hr.mono (by first | decide | omega)) (by rfl) T.m__law_record T.F__law_record.kp T.b__law_record .nil pass0 (pa_cons (pv 0) (pa_cons (pv 12) (pa_cons (pe_fz (pe_lst (pa_cons pe_str (pa_cons pe_str (pa_cons pe_str pa_nil))))) pa_nil)))) (pg_sub (pv 4) (pv 13) (set_dict (hu_of hr))))))
      (pss_cons (ps_for PassesOwn.never rfl (pi_list (pv 9)) (pg_name (i := 13) sc__law_lore.nd rfl (Or.inl rfl)) (pss_one (ps_asg (pe_call G__law_list (hr.mono (by first | decide | omega)) (by rfl) T.m__law_list T.F__law_list.kp T.b__law_list .nil pass0 (pa_cons (pv 0) (pa_cons (pv 12) pa_nil))) (pg_sub (pv 4) (pv 13) (set_dict (hu_of hr))))))
      (pss_cons (ps_for PassesOwn.never rfl (pi_list (pv 10)) (pg_name (i := 13) sc__law_lore.nd rfl (Or.inl rfl)) (pss_one (ps_asg (pe_lk 4 (pe_call G__law_tagged (hr.mono (by first | decide | omega)) (by rfl) T.m__law_tagged T.F__law_tagged.kp T.b__law_tagged .nil pass0 (pa_cons (pv 0) (pa_cons (pv 4) (pa_cons (pv 8) pa_nil))))) (pg_sub (pv 4) (pv 13) (set_dict (hu_of hr))))))
      (pss_cons (ps_for PassesOwn.never rfl (pi_enum1 (by rfl) T.n_enumerate (pa_cons (pv 11) pa_nil)) (pg_tup (n := 2) rfl (pgs_cons (pg_name (i := 14) sc__law_lore.nd rfl (Or.inl rfl)) (pgs_cons (pg_name (i := 13) sc__law_lore.nd rfl (Or.inl rfl)) pgs_nil))) (pss_cons (ps_setLk 4 (by show (15 : Nat) < 19; decide) (ps_setLc (i := 15) (own := [("_law_one", 18)]) (g := gName 18) (tt := tYes) (by rfl) sc__law_lore.nd rfl rfl (sw_true rfl rfl rfl (by decide +kernel)) (pi_keys (pv 4)) (blkOk_by (own := [("_law_one", 18)]) (N := ["_law_pot", "_law_pool", "_law_many", "_law_names", "_law_lore_here", "_law_groups", "_law_part_many", "_law_plain_here", "_law_records", "_law_lists", "_law_tagged_here", "_law_eithers", "_law_every", "_law_name", "_law_at", "_law_some", "_law_rows", "_law_turn", "_law_one"]) (sc := defScope s__law_lore) (by decide +kernel)) (fun _ _ _ _ _ => (pg_name (i := 18) sc__law_lore.nd rfl (Or.inl rfl))) (fun _ _ _ _ _ => pts_nil) (fun _ _ _ _ _ => (pv 18))))
      (pss_one (ps_asg (pe_tup (pa_cons pe_str (pa_cons (pe_callTy dTuple (by rfl) T.n_tuple PyProof.Rows.Boot.«tuple» (pa_cons (pe_call G__law_unlike (hr.mono (by first | decide | omega)) (by rfl) T.m__law_unlike T.F__law_unlike.kp T.b__law_unlike .nil pass0 (pa_cons (pv 0) (pa_cons (pv 15) (pa_cons (pe_op dAddX pe_int (pe_call G__law_take (hr.mono (by first | decide | omega)) (by rfl) T.m__law_take T.F__law_take.kp T.b__law_take .nil pass0 (pa_cons (pv 0) (pa_cons pe_int pa_nil)))) pa_nil)))) pa_nil)) pa_nil))) (pg_sub (pv 4) (pv 13) (set_dict (hu_of hr)))))))
      (pss_cons (ps_set (i := 16) sc__law_lore.nd rfl (Or.inl rfl) (pe_lk 4 (pe_fz (pe_listItemsR (by rfl) (pv 4) (by rfl) T.n_list PyProof.Rows.Boot.«list»))))
      (pss_cons (ps_set (i := 17) sc__law_lore.nd rfl (Or.inl rfl) (pe_call G__law_take (hr.mono (by first | decide | omega)) (by rfl) T.m__law_take T.F__law_take.kp T.b__law_take .nil pass0 (pa_cons (pv 0) (pa_cons (pe_callB dLen (by rfl) T.n_len PyProof.Rows.Boot.«len» (pa_cons (pv 16) pa_nil)) pa_nil))))
      (pss_one (ps_ret (pe_fz (pe_callTy (dDictP rfl) (by rfl) T.n_dict PyProof.Rows.Boot.«dict» (pa_cons (pe_fz (pe_op dCat (pe_fz (pe_slice dSlL (pv 16) (po_some (pv 17)) po_none)) (pe_fz (pe_slice dSlL (pv 16) po_none (po_some (pv 17)))))) pa_nil))))))))))))))))))), inferInstance, ?_⟩)
  · obtain ⟨rfl, _⟩ := h
    rfl
  obtain ⟨rfl, hc, k⟩ := h
  change (_ : TDS) (DDp p Kk) _
  generalize hF : DSeq (DSet 16 _) _ = UF
  generalize hE : DSeq (DFor (IEn1 _) _ _) UF = UE
  generalize hG : DSeq (DFor (IList (DVar 10)) _ _) UE = UG
  generalize hL : DSeq (DFor (IList (DVar 9)) _ _) UG = UL
  generalize hR : DSeq (DFor (IList (DVar 8)) _ _) UL = UR
  generalize hP : DSeq (DFor (IList (DVar 7)) _ _) UR = UP
  generalize hV : DSeq (DSet 12 _) UP = UV
  generalize hB : DSeq (DFor (IList (DVar 2)) _ _) _ = UB
  have sF : ∀ (c' : Int) (fs : Forms) (pl rc li tg ei ev : List Str) (x1 x2 x3 x5 x6 x13 x14 x15 x16 x17 x18 : Option DV), GoodL fs → Big fs → c' ≤ c + 590 → UF (DDp p Kk) (SLo p c' fs pl rc li tg ei ev x1 x2 x3 x5 x6 x13 x14 x15 x16 x17 x18) := by
    intro c' fs pl rc li tg ei ev x1 x2 x3 x5 x6 x13 x14 x15 x16 x17 x18 g big hc'
    rw [← hF]
    unfold SLo
    walk_at "d"
    refine ⟨encP fs, rfl, noC_pairs fs, ⟨_, _, rfl, rfl⟩, _, rfl, by omega, ?_, ?_, fun t ht => ?_⟩
    · unfold pairsP
      rw [List.length_map]
      unfold encP
      rw [List.length_map]
      have := List.length_pos_iff.mpr g.ne
      omega
    · unfold pairsP
      rw [List.length_map]
      unfold encP
      rw [List.length_map]
      have := g.few
      omega
    have hl : (pairsP (encP fs)).length = fs.length := by
      unfold pairsP encP
      rw [List.length_map, List.length_map]
    have ht : t < fs.length := by omega
    dsimp only
    rw [cut_take _ (by omega), cut_drop _ (by omega)]
    have few := g.few
    have e : (pairsP (encP fs)).drop t ++ (pairsP (encP fs)).take t = pairsP (encP (fs.drop t ++ fs.take t)) := by
      unfold pairsP encP
      rw [← List.map_drop, ← List.map_take, ← List.map_drop, ← List.map_take, ← List.map_append, ← List.map_append]
    have em : mergeP [] (encP (fs.drop t ++ fs.take t)) = encP (fs.drop t ++ fs.take t) := by
      rw [merge_nd _ [] (by rw [enc_names]; exact (g.turn t).nd)]
      rfl
    refine ⟨by rw [List.length_drop, List.length_take]; omega, _, e, ?_⟩
    rw [em]
    exact ⟨_, rfl, k _ _ (g.turn t) (big_turn big t) (by omega)⟩
  have hfl : ∀ {fs : Forms} {L : List Str}, Fill fs L → (encP fs).length = L.length := fun {fs L} h => by
    unfold encP
    rw [List.length_map, ← h.nm, List.length_map]
  have sE : ∀ (pl rc li tg ei ev : List Str) (c' : Int) (fs : Forms) (x1 x2 x3 x5 x6 x13 x14 x15 x16 x17 x18 : Option DV), Parts pl rc li tg ei → Fill fs (pl ++ rc ++ li ++ tg) → c' ≤ c + 500 → UE (DDp p Kk) (SLo p c' fs pl rc li tg ei ev x1 x2 x3 x5 x6 x13 x14 x15 x16 x17 x18) := by
    intro pl rc li tg ei ev c' fs x1 x2 x3 x5 x6 x13 x14 x15 x16 x17 x18 pa fi hc'
    obtain ⟨l1, l2, l3, l4, l5⟩ : pl.length = 3 ∧ (2 ≤ rc.length ∧ rc.length ≤ 3) ∧ li.length ≤ 1 ∧ tg.length ≤ 2 ∧ (1 ≤ ei.length ∧ ei.length ≤ 2) := ⟨pa.l1, pa.l2, pa.l3, pa.l4, pa.l5⟩
    have nd := are_nd pa.ok
    rw [← hE]
    unfold SLo
    walk_at "d"
    refine ⟨fun i ρ => ∃ (c2 : Int) (fs2 : Forms) (x1 x2 x3 x5 x6 x13 x14 x15 x16 x17 x18 : Option DV), ρ = SLo p c2 fs2 pl rc li tg ei ev x1 x2 x3 x5 x6 x13 x14 x15 x16 x17 x18 ∧ Fill fs2 (pl ++ rc ++ li ++ tg ++ ei.take i) ∧ c2 ≤ c' + 10 * i ∧ (0 < i → Big fs2), ⟨c', fs, _, _, _, _, _, _, _, _, _, _, _, rfl, by simpa using fi, by omega, fun h => absurd h (Nat.lt_irrefl 0)⟩, ?_, ?_⟩
    · rintro i y ρ hy ⟨c2, fs2, x1, x2, x3, x5, x6, x13, x14, x15, x16, x17, x18, rfl, fi2, hc2, big2⟩
      obtain ⟨y2, hy2, rfl⟩ := enums_at hy
      obtain ⟨z, hz, rfl⟩ := map_strs hy2
      have hi : i < ei.length := (List.getElem?_eq_some_iff.mp hz).1
      have hn := not_yet (ws := pl ++ (rc ++ (li ++ (tg ++ ei)))) (L := pl ++ rc ++ li ++ tg) (N := []) nd (by simp [List.append_assoc]) hz
      have hlen := hfl fi2
      simp only [List.length_append, List.length_take] at hlen
      unfold SLo
      walk_at "d"
      refine ⟨encP fs2, rfl, ?_⟩
      dsimp only
      rw [show ((encP fs2).map fun p => PyData.str p.1) = (fs2.map (·.1)).map .str by unfold encP; rw [List.map_map, List.map_map]; rfl]
      have hl2 : (fs2.map (·.1)).length = pl.length + rc.length + li.length + tg.length + min i ei.length := by
        rw [List.length_map]
        unfold encP at hlen
        rw [List.length_map] at hlen
        exact hlen
      refine lc_map id (fun j y hy Q hQ => ?_) ?_ (by rw [List.length_map]; omega)
      · obtain ⟨u, hu, rfl⟩ := map_strs hy
        walk_at "d"
        exact hQ _ rfl
      · rw [List.map_id]
        clear hF hE hG hL hR hP hV hB G__law_of G__law_take G__law_unlike G__law_plain G__law_record G__law_list G__law_tagged
        walk_at "d"
        refine ⟨noC_lst fun y hy => ?_, ?_⟩
        · obtain ⟨u, _, rfl⟩ := List.mem_map.mp hy
          rfl
        refine ⟨⟨_, _, rfl, rfl⟩, ⟨_, _, rfl, rfl⟩, 3, rfl, by omega, by decide, by decide, fun t ht => ?_⟩
        dsimp only
        refine ⟨(fs2.map (·.1)).map .str, 2 + t, by rw [show (2 : Int) + (t : Int) = ((2 + t : Nat) : Int) by omega], by omega, by rw [List.length_map]; omega, fun ys rest pm ln => ?_⟩
        obtain ⟨ms, mr, rfl, rfl, pm2⟩ := perm_strs pm
        rw [List.length_map, List.length_map] at ln ⊢
        have nd2 : (fs2.map (·.1)).Nodup := by
          rw [fi2.nm]
          exact nd_pre (ws := pl ++ (rc ++ (li ++ (tg ++ ei)))) (N := []) nd (by simp [List.append_assoc]) i
        have nm2 : areNames (fs2.map (·.1)) = true := areNames_of pa.ok (fun w hw => by
          rw [fi2.nm] at hw
          simp only [List.mem_append] at hw ⊢
          rcases hw with (((q | q) | q) | q) | q
          · exact .inl q
          · exact .inr (.inl q)
          · exact .inr (.inr (.inl q))
          · exact .inr (.inr (.inr (.inl q)))
          · exact .inr (.inr (.inr (.inr (List.mem_of_mem_take q))))) nd2
        have gf : gForm (.either ms) := ⟨by omega, by omega, names_sub pm2 nm2⟩
        dsimp only
        refine ⟨encP fs2, rfl, by omega, ?_⟩
        rw [show PyData.tuple [.str (Str.ofString "either"), .tuple (ms.map .str)] = encF (.either ms) from rfl, enc_put (by rw [fi2.nm]; exact hn)]
        have hput := fi2.put (x := z) gf
        rw [take_snoc hz] at hput
        exact ⟨_, fs2 ++ [(z, .either ms)], _, _, _, _, _, _, _, _, _, _, _, rfl, hput, by omega, fun _ => ⟨(z, .either ms), by simp, rfl⟩⟩
    · rintro ρ ⟨c2, fs2, x1, x2, x3, x5, x6, x13, x14, x15, x16, x17, x18, rfl, fi2, hc2, big2⟩
      rw [enums_len, List.length_map, List.take_length] at fi2
      rw [enums_len, List.length_map] at hc2 big2
      have hlen := hfl fi2
      simp only [List.length_append] at hlen
      unfold encP at hlen
      rw [List.length_map] at hlen
      have ews : pl ++ rc ++ li ++ tg ++ ei = pl ++ (rc ++ (li ++ (tg ++ ei))) := by simp [List.append_assoc]
      refine sF c2 fs2 _ _ _ _ _ _ _ _ _ _ _ _ _ _ _ _ _ ⟨fun q => ?_, by omega, by rw [fi2.nm, ews]; exact nd, fun r hr => ?_, fi2.gf⟩ (big2 (by omega)) (by omega)
      · rw [q] at hlen
        simp at hlen
        omega
      · have : r.1 ∈ fs2.map (·.1) := List.mem_map.mpr ⟨r, hr, rfl⟩
        rw [fi2.nm, ews] at this
        exact are_mem pa.ok this
  have sG : ∀ (pl rc li tg ei ev : List Str) (c' : Int) (fs : Forms) (x1 x2 x3 x5 x6 x13 x14 x15 x16 x17 x18 : Option DV), Parts pl rc li tg ei → Fill fs (pl ++ rc ++ li) → (∀ u ∈ rc, ∃ op rows, (u, Form.record op rows) ∈ fs) → c' ≤ c + 400 → UG (DDp p Kk) (SLo p c' fs pl rc li tg ei ev x1 x2 x3 x5 x6 x13 x14 x15 x16 x17 x18) := by
    intro pl rc li tg ei ev c' fs x1 x2 x3 x5 x6 x13 x14 x15 x16 x17 x18 pa fi hrec hc'
    obtain ⟨l1, l2, l3, l4, l5⟩ : pl.length = 3 ∧ (2 ≤ rc.length ∧ rc.length ≤ 3) ∧ li.length ≤ 1 ∧ tg.length ≤ 2 ∧ (1 ≤ ei.length ∧ ei.length ≤ 2) := ⟨pa.l1, pa.l2, pa.l3, pa.l4, pa.l5⟩
    have nd := are_nd pa.ok
    rw [← hG]
    unfold SLo
    walk_at "d"
    refine ⟨fun i ρ => ∃ (c2 : Int) (fs2 : Forms) (x1 x2 x3 x5 x6 x13 x14 x15 x16 x17 x18 : Option DV), ρ = SLo p c2 fs2 pl rc li tg ei ev x1 x2 x3 x5 x6 x13 x14 x15 x16 x17 x18 ∧ Fill fs2 (pl ++ rc ++ li ++ tg.take i) ∧ (∀ u ∈ rc, ∃ op rows, (u, Form.record op rows) ∈ fs2) ∧ c2 ≤ c' + 20 * i, ⟨c', fs, _, _, _, _, _, _, _, _, _, _, _, rfl, by simpa using fi, hrec, by omega⟩, ?_, ?_⟩
    · rintro i y ρ hy ⟨c2, fs2, x1, x2, x3, x5, x6, x13, x14, x15, x16, x17, x18, rfl, fi2, hrec2, hc2⟩
      obtain ⟨z, hz, rfl⟩ := map_strs hy
      have hi : i < tg.length := (List.getElem?_eq_some_iff.mp hz).1
      have hn := not_yet (ws := pl ++ (rc ++ (li ++ (tg ++ ei)))) (L := pl ++ rc ++ li) (N := ei) nd (by simp [List.append_assoc]) hz
      have hlen := hfl fi2
      simp only [List.length_append, List.length_take] at hlen
      unfold SLo
      walk_at "d"
      have nd2 : (fs2.map (·.1)).Nodup := by
        rw [fi2.nm]
        exact nd_pre (ws := pl ++ (rc ++ (li ++ (tg ++ ei)))) (N := ei) nd (by simp [List.append_assoc]) i
      refine ⟨⟨_, _, rfl, rfl⟩, fs2, rc, rfl, ⟨fun q => by rw [q] at l2; simp at l2, by omega, fun u hu => are_mem pa.ok (by simp [hu])⟩, fun u hu => ?_, by omega, fun f c3 gf hc3 => ⟨noC_encF _ _ f, encP fs2, rfl, by omega, ?_⟩⟩
      · obtain ⟨op, rows, h⟩ := hrec2 u hu
        exact ⟨op, rows, lookF_of nd2 h, (fi2.gf _ h).2.1⟩
      · rw [enc_put (by rw [fi2.nm]; exact hn)]
        have := fi2.put (x := z) gf
        rw [take_snoc hz] at this
        refine ⟨c3, fs2 ++ [(z, f)], _, _, _, _, _, _, _, _, _, _, _, rfl, this, fun u hu => ?_, by omega⟩
        obtain ⟨op, rows, h⟩ := hrec2 u hu
        exact ⟨op, rows, List.mem_append_left _ h⟩
    · rintro ρ ⟨c2, fs2, x1, x2, x3, x5, x6, x13, x14, x15, x16, x17, x18, rfl, fi2, hrec2, hc2⟩
      rw [List.length_map, List.take_length] at fi2
      rw [List.length_map] at hc2
      exact sE _ _ _ _ _ _ _ _ _ _ _ _ _ _ _ _ _ _ _ pa fi2 (by omega)
  have sL : ∀ (pl rc li tg ei ev : List Str) (c' : Int) (fs : Forms) (x1 x2 x3 x5 x6 x13 x14 x15 x16 x17 x18 : Option DV), Parts pl rc li tg ei → Nms ev → Fill fs (pl ++ rc) → (∀ u ∈ rc, ∃ op rows, (u, Form.record op rows) ∈ fs) → c' ≤ c + 300 → UL (DDp p Kk) (SLo p c' fs pl rc li tg ei ev x1 x2 x3 x5 x6 x13 x14 x15 x16 x17 x18) := by
    intro pl rc li tg ei ev c' fs x1 x2 x3 x5 x6 x13 x14 x15 x16 x17 x18 pa hev fi hrec hc'
    obtain ⟨l1, l2, l3, l4, l5⟩ : pl.length = 3 ∧ (2 ≤ rc.length ∧ rc.length ≤ 3) ∧ li.length ≤ 1 ∧ tg.length ≤ 2 ∧ (1 ≤ ei.length ∧ ei.length ≤ 2) := ⟨pa.l1, pa.l2, pa.l3, pa.l4, pa.l5⟩
    have nd := are_nd pa.ok
    rw [← hL]
    unfold SLo
    walk_at "d"
    refine ⟨fun i ρ => ∃ (c2 : Int) (fs2 : Forms) (x1 x2 x3 x5 x6 x13 x14 x15 x16 x17 x18 : Option DV), ρ = SLo p c2 fs2 pl rc li tg ei ev x1 x2 x3 x5 x6 x13 x14 x15 x16 x17 x18 ∧ Fill fs2 (pl ++ rc ++ li.take i) ∧ (∀ u ∈ rc, ∃ op rows, (u, Form.record op rows) ∈ fs2) ∧ c2 ≤ c' + 10 * i, ⟨c', fs, _, _, _, _, _, _, _, _, _, _, _, rfl, by simpa using fi, hrec, by omega⟩, ?_, ?_⟩
    · rintro i y ρ hy ⟨c2, fs2, x1, x2, x3, x5, x6, x13, x14, x15, x16, x17, x18, rfl, fi2, hrec2, hc2⟩
      obtain ⟨z, hz, rfl⟩ := map_strs hy
      have hi : i < li.length := (List.getElem?_eq_some_iff.mp hz).1
      have hn := not_yet (ws := pl ++ (rc ++ (li ++ (tg ++ ei)))) (L := pl ++ rc) (N := tg ++ ei) nd (by simp [List.append_assoc]) hz
      have hlen := hfl fi2
      simp only [List.length_append, List.length_take] at hlen
      unfold SLo
      walk_at "d"
      refine ⟨⟨_, _, rfl, rfl⟩, ev, rfl, hev, by omega, fun f c3 gf hc3 => ?_⟩
      dsimp only
      refine ⟨encP fs2, rfl, by omega, ?_⟩
      rw [enc_put (by rw [fi2.nm]; exact hn)]
      have := fi2.put (x := z) gf
      rw [take_snoc hz] at this
      refine ⟨c3, fs2 ++ [(z, f)], _, _, _, _, _, _, _, _, _, _, _, rfl, this, fun u hu => ?_, by omega⟩
      obtain ⟨op, rows, h⟩ := hrec2 u hu
      exact ⟨op, rows, List.mem_append_left _ h⟩
    · rintro ρ ⟨c2, fs2, x1, x2, x3, x5, x6, x13, x14, x15, x16, x17, x18, rfl, fi2, hrec2, hc2⟩
      rw [List.length_map, List.take_length] at fi2
      rw [List.length_map] at hc2
      exact sG _ _ _ _ _ _ _ _ _ _ _ _ _ _ _ _ _ _ _ pa fi2 hrec2 (by omega)
  have sR : ∀ (pl rc li tg ei ev : List Str) (c' : Int) (fs : Forms) (x1 x2 x3 x5 x6 x13 x14 x15 x16 x17 x18 : Option DV), Parts pl rc li tg ei → Nms ev → Fill fs pl → c' ≤ c + 100 → UR (DDp p Kk) (SLo p c' fs pl rc li tg ei ev x1 x2 x3 x5 x6 x13 x14 x15 x16 x17 x18) := by
    intro pl rc li tg ei ev c' fs x1 x2 x3 x5 x6 x13 x14 x15 x16 x17 x18 pa hev fi hc'
    obtain ⟨l1, l2, l3, l4, l5⟩ : pl.length = 3 ∧ (2 ≤ rc.length ∧ rc.length ≤ 3) ∧ li.length ≤ 1 ∧ tg.length ≤ 2 ∧ (1 ≤ ei.length ∧ ei.length ≤ 2) := ⟨pa.l1, pa.l2, pa.l3, pa.l4, pa.l5⟩
    have nd := are_nd pa.ok
    rw [← hR]
    unfold SLo
    walk_at "d"
    refine ⟨fun i ρ => ∃ (c2 : Int) (fs2 : Forms) (x1 x2 x3 x5 x6 x13 x14 x15 x16 x17 x18 : Option DV), ρ = SLo p c2 fs2 pl rc li tg ei ev x1 x2 x3 x5 x6 x13 x14 x15 x16 x17 x18 ∧ Fill fs2 (pl ++ rc.take i) ∧ (∀ u ∈ rc.take i, ∃ op rows, (u, Form.record op rows) ∈ fs2) ∧ c2 ≤ c' + 40 * i, ⟨c', fs, _, _, _, _, _, _, _, _, _, _, _, rfl, by simpa using fi, by simp, by omega⟩, ?_, ?_⟩
    · rintro i y ρ hy ⟨c2, fs2, x1, x2, x3, x5, x6, x13, x14, x15, x16, x17, x18, rfl, fi2, hrec2, hc2⟩
      obtain ⟨z, hz, rfl⟩ := map_strs hy
      have hi : i < rc.length := (List.getElem?_eq_some_iff.mp hz).1
      have hn := not_yet (ws := pl ++ (rc ++ (li ++ (tg ++ ei)))) (L := pl) (N := li ++ (tg ++ ei)) nd (by simp [List.append_assoc]) hz
      have hlen := hfl fi2
      simp only [List.length_append, List.length_take] at hlen
      unfold SLo
      walk_at "d"
      refine ⟨⟨_, _, rfl, rfl⟩, ev, [Str.ofString "x", Str.ofString "y", Str.ofString "k"], rfl, hev, by decide +kernel, by decide, by omega, fun op rows c3 gf hc3 => ?_⟩
      dsimp only
      refine ⟨encP fs2, rfl, by omega, ?_⟩
      rw [enc_put (by rw [fi2.nm]; exact hn)]
      have := fi2.put (x := z) gf
      rw [take_snoc hz] at this
      refine ⟨c3, fs2 ++ [(z, .record op rows)], _, _, _, _, _, _, _, _, _, _, _, rfl, this, fun u hu => ?_, by omega⟩
      rw [take_succ hz] at hu
      rcases List.mem_append.mp hu with q | q
      · obtain ⟨op, rows, h⟩ := hrec2 u q
        exact ⟨op, rows, List.mem_append_left _ h⟩
      · rw [List.mem_singleton.mp q]
        exact ⟨op, rows, List.mem_append_right _ (by simp)⟩
    · rintro ρ ⟨c2, fs2, x1, x2, x3, x5, x6, x13, x14, x15, x16, x17, x18, rfl, fi2, hrec2, hc2⟩
      rw [List.length_map, List.take_length] at fi2 hrec2
      rw [List.length_map] at hc2
      exact sL _ _ _ _ _ _ _ _ _ _ _ _ _ _ _ _ _ _ _ pa hev fi2 hrec2 (by omega)
  have sP : ∀ (pl rc li tg ei ev : List Str) (c' : Int) (x1 x2 x3 x5 x6 x13 x14 x15 x16 x17 x18 : Option DV), Parts pl rc li tg ei → Nms ev → c' ≤ c + 50 → UP (DDp p Kk) (SLo p c' [] pl rc li tg ei ev x1 x2 x3 x5 x6 x13 x14 x15 x16 x17 x18) := by
    intro pl rc li tg ei ev c' x1 x2 x3 x5 x6 x13 x14 x15 x16 x17 x18 pa hev hc'
    obtain ⟨l1, l2, l3, l4, l5⟩ : pl.length = 3 ∧ (2 ≤ rc.length ∧ rc.length ≤ 3) ∧ li.length ≤ 1 ∧ tg.length ≤ 2 ∧ (1 ≤ ei.length ∧ ei.length ≤ 2) := ⟨pa.l1, pa.l2, pa.l3, pa.l4, pa.l5⟩
    have nd := are_nd pa.ok
    rw [← hP]
    unfold SLo
    walk_at "d"
    refine ⟨fun i ρ => ∃ (c2 : Int) (fs2 : Forms) (x1 x2 x3 x5 x6 x13 x14 x15 x16 x17 x18 : Option DV), ρ = SLo p c2 fs2 pl rc li tg ei ev x1 x2 x3 x5 x6 x13 x14 x15 x16 x17 x18 ∧ Fill fs2 ([] ++ pl.take i) ∧ c2 ≤ c' + 10 * i, ⟨c', [], _, _, _, _, _, _, _, _, _, _, _, rfl, ⟨rfl, by simp⟩, by omega⟩, ?_, ?_⟩
    · rintro i y ρ hy ⟨c2, fs2, x1, x2, x3, x5, x6, x13, x14, x15, x16, x17, x18, rfl, fi2, hc2⟩
      obtain ⟨z, hz, rfl⟩ := map_strs hy
      have hi : i < pl.length := (List.getElem?_eq_some_iff.mp hz).1
      have hn := not_yet (ws := pl ++ (rc ++ (li ++ (tg ++ ei)))) (L := []) (N := rc ++ (li ++ (tg ++ ei))) nd (by simp [List.append_assoc]) hz
      have hlen := hfl fi2
      simp only [List.length_append, List.length_take, List.length_nil] at hlen
      unfold SLo
      walk_at "d"
      refine ⟨⟨_, _, rfl, rfl⟩, rfl, by omega, fun f c3 gf hc3 => ?_⟩
      dsimp only
      refine ⟨encP fs2, rfl, by omega, ?_⟩
      rw [enc_put (by rw [fi2.nm]; exact hn)]
      have := fi2.put (x := z) gf
      rw [take_snoc hz] at this
      exact ⟨c3, fs2 ++ [(z, f)], _, _, _, _, _, _, _, _, _, _, _, rfl, this, by omega⟩
    · rintro ρ ⟨c2, fs2, x1, x2, x3, x5, x6, x13, x14, x15, x16, x17, x18, rfl, fi2, hc2⟩
      rw [List.length_map, List.take_length, List.nil_append] at fi2
      rw [List.length_map] at hc2
      exact sR _ _ _ _ _ _ _ _ _ _ _ _ _ _ _ _ _ _ _ pa hev fi2 (by omega)
  rw [show startP _ p c [] = [some (.pot p c), none, none, none, none, none, none, none, none, none, none, none, none, none, none, none, none, none, none] from rfl]
  clear hF hE hG hL hR hP
  walk_at "d"
  refine ⟨⟨_, _, rfl, rfl⟩, 2, rfl, by omega, by decide, by decide, fun r1 hr1 => ?_⟩
  dsimp only
  refine ⟨⟨_, _, rfl, rfl⟩, 2, rfl, by omega, by decide, by decide, fun r2 hr2 => ?_⟩
  refine ⟨⟨_, _, rfl, rfl⟩, _, rfl, by omega, by simp, by simp, fun d3 hd3 => ?_⟩
  obtain ⟨r3, rfl, h3⟩ : ∃ r3 : Nat, d3 = .int r3 ∧ r3 ≤ 2 := by
    simp only [List.mem_cons, List.not_mem_nil, or_false] at hd3
    rcases hd3 with rfl | rfl | rfl | rfl
    · exact ⟨0, rfl, by decide⟩
    · exact ⟨1, rfl, by decide⟩
    · exact ⟨1, rfl, by decide⟩
    · exact ⟨2, rfl, by decide⟩
  refine ⟨⟨_, _, rfl, rfl⟩, 2, rfl, by omega, by decide, by decide, fun r4 hr4 => ?_⟩
  dsimp only
  refine ⟨⟨_, _, rfl, rfl⟩, [3, 2 + (r1 : Int), (r2 : Int), (r3 : Int), 1 + (r4 : Int)], rfl, ?_⟩
  refine ⟨_, 3 + (2 + r1) + r2 + r3 + (1 + r4), by
    simp only [List.sum_cons, List.sum_nil]
    rw [show (3 : Int) + (2 + (r1 : Int) + ((r2 : Int) + ((r3 : Int) + (1 + (r4 : Int) + 0)))) = ((3 + (2 + r1) + r2 + r3 + (1 + r4) : Nat) : Int) by omega], by omega, by simp, fun ys rest pm ln => ⟨by decide, ?_⟩⟩
  obtain ⟨ws, wr, rfl, rfl, pm2⟩ := perm_strs (us := [Str.ofString "a", Str.ofString "b", Str.ofString "ab", Str.ofString "record", Str.ofString "either", Str.ofString "open", Str.ofString "none", Str.ofString "text", Str.ofString "int", Str.ofString "x", Str.ofString "y", Str.ofString "kind", Str.ofString "list", Str.ofString "tagged", Str.ofString "zz", Str.ofString "abcdefgh"]) pm
  have nw := names_sub pm2 (by decide +kernel)
  rw [List.length_map] at ln
  simp only [List.length_cons, List.length_nil] at ln ⊢
  have ln2 : ws.length = 3 + (2 + r1) + r2 + r3 + (1 + r4) := by omega
  clear pm pm2 ln
  generalize hpool : (some (DV.d (PyData.list [PyData.str (Str.ofString "a"), _, _, _, _, _, _, _, _, _, _, _, _, _, _, _]))) = XP
  have hms : [PyData.int 3, PyData.int (2 + (r1 : Int)), PyData.int (r2 : Int), PyData.int (r3 : Int), PyData.int (1 + (r4 : Int))] = ([3, 2 + r1, r2, r3, 1 + r4].map fun n : Nat => PyData.int n) := by
    simp only [List.map_cons, List.map_nil]
    congr 2
  rw [hms, ← hB]
  generalize hmm : [3, 2 + r1, r2, r3, 1 + r4] = ms
  have hm10 : ∀ n ∈ ms, n ≤ 10 := by
    intro n hn
    rw [← hmm] at hn
    simp only [List.mem_cons, List.not_mem_nil, or_false] at hn
    omega
  have hm5 : ms.length = 5 := by rw [← hmm]; rfl
  have hms2 : ws.length = ms.sum := by rw [← hmm, ln2]; simp; omega
  walk_at "d"
  refine ⟨fun i ρ => ∃ (gs : List (List Str)) (rest : List Str) (c' : Int) (x6 : Option DV), ρ = [some (.pot p c'), XP, some (.d (.list (ms.map fun n : Nat => PyData.int n))), some (.d (.list (rest.map .str))), some (.m []), some (.l (gs.map fun g => .list (g.map .str))), x6, none, none, none, none, none, none, none, none, none, none, none, none] ∧ gs.flatten ++ rest = ws ∧ gs.map List.length = ms.take i ∧ rest.length = (ms.drop i).sum ∧ c' ≤ c + 20, ⟨[], ws, _, none, rfl, by simp, by simp, by simpa using hms2, by omega⟩, ?_, ?_⟩
  · rintro i y ρ hy ⟨gs, rest, c', x6, rfl, h1, h2, h3', h4⟩
    obtain ⟨n, hn, rfl⟩ := map_at hy
    have hi : i < ms.length := (List.getElem?_eq_some_iff.mp hn).1
    have hd : ms.drop i = n :: ms.drop (i + 1) := by rw [List.drop_eq_getElem_cons hi, (List.getElem?_eq_some_iff.mp hn).2]
    have hle : n ≤ rest.length := by rw [h3', hd, List.sum_cons]; omega
    have hgl : gs.length = i := by
      have := congrArg List.length h2
      rw [List.length_map, List.length_take] at this
      omega
    walk_at "d"
    rw [cut_take _ (by rw [List.length_map]; exact hle), cut_drop _ (by rw [List.length_map]; exact hle)]
    refine ⟨by rw [List.length_map]; omega, ?_⟩
    rw [← List.map_take, ← List.map_drop]
    refine ⟨gs ++ [rest.take n], rest.drop n, c', _, by rw [List.map_append]; rfl, ?_, ?_, ?_, h4⟩
    · rw [List.flatten_append, ← h1]
      simp [List.append_assoc]
    · rw [List.map_append, h2, take_succ hn]
      simp [Nat.min_eq_left hle]
    · rw [List.length_drop, h3', hd, List.sum_cons]
      omega
  · rintro ρ ⟨gs, rest, c', x6, rfl, h1, h2, h3', h4⟩
    rw [List.length_map, hm5] at h2 h3'
    rw [List.take_of_length_le (by omega), ← hmm] at h2
    rw [List.drop_of_length_le (by omega)] at h3'
    have hrest : rest = [] := List.length_eq_zero_iff.mp (by simpa using h3')
    subst hrest
    rw [List.append_nil] at h1
    have hg5 : gs.length = 5 := by
      have := congrArg List.length h2
      rw [List.length_map] at this
      exact this
    obtain ⟨pl, rc, li, tg, ei, rfl⟩ : ∃ a b c d e, gs = [a, b, c, d, e] := by
      match gs, hg5 with
      | [a, b, c, d, e], _ => exact ⟨a, b, c, d, e, rfl⟩
    simp only [List.map_cons, List.map_nil, List.cons.injEq, and_true] at h2
    obtain ⟨k1, k2, k3, k4, k5⟩ := h2
    have hws : pl ++ (rc ++ (li ++ (tg ++ ei))) = ws := by simpa using h1
    have pa : Parts pl rc li tg ei := ⟨by rw [hws]; exact nw, k1, by omega, by omega, by omega, by omega⟩
    walk_at "d"
    rw [← hV]
    walk_at "d"
    have hev : Nms (pl ++ pl ++ rc ++ li ++ tg ++ ei) := by
      refine ⟨fun q => ?_, ?_, fun u hu => ?_⟩
      · have := congrArg List.length q
        simp only [List.length_append, List.length_nil] at this
        omega
      · simp only [List.length_append]
        omega
      · refine are_mem pa.ok ?_
        simp only [List.mem_append] at hu ⊢
        rcases hu with ((((q | q) | q) | q) | q) | q
        · exact .inl q
        · exact .inl q
        · exact .inr (.inl q)
        · exact .inr (.inr (.inl q))
        · exact .inr (.inr (.inr (.inl q)))
        · exact .inr (.inr (.inr (.inr q)))
    have hrep : (List.replicate (Int.toNat 2) (pl.map PyData.str)).flatten = (pl ++ pl).map PyData.str := by
      rw [show Int.toNat 2 = 2 from rfl, List.map_append]
      simp [List.replicate]
    rw [hrep, ← List.map_append, ← List.map_append, ← List.map_append, ← List.map_append]
    simp only [List.length_map, List.length_append]
    refine ⟨by decide, by decide, by omega, by omega, by omega, by omega, by omega, ?_⟩
    exact sP pl rc li tg ei _ _ _ _ _ _ _ _ _ _ _ _ _ pa hev (by omega)
end
end Bk
end
section
--@@ genb
set_option Elab.async false
set_option linter.all false
set_option maxRecDepth 100000
set_option maxHeartbeats 4000000
set_option pp.maxSteps 4000
set_option synthInstance.maxHeartbeats 4000000
set_option synthInstance.maxSize 100000
namespace Bk
open PySem PySem.Spec PyProof.Rows L2 Tg Dw En
local macro_rules | `(tactic| walk_at "d") => `(tactic| simp (maxSteps := 4000000) only [IEn1, DInO, DTru, DPop0, DVar, DCon, DLock, DLockV, DCons, DNil, DOp, DOpN, DUn, DTup, DLst, DCB, DCBN, DMt, DMtN, isB, DB, DNot, DAnd, DOr, DAndV, DOrV, DNotV, DIf, DChain, DNext, DSeq, DIfS, DRet, DDrop, DSet, DSetN, GName, GNil, GCons, GTup, DAsgG, DPar, isL, isT, isS, isI, IList, ITup, IStr, IRng1, IRng2, DFor, DLc, DYes, RInt, RIntC, RStr, RCatS, eqC, REq, RNe, isNone, RIsN, RNotN, RInS, RIx, RSlS, ONone, OSome, DSl, DSlN, on1, on2, RLen, RIntOf, RIntS, RStrI, RAbs, RMin2, RMax2, RAll, RAny, NList, RTuple, RReprD, MStarts, MFind, MJoin, tyB, DIs, DIs3, DApp, DCall, DCallX, DRaise, startD, RAdd, RLe, RInX, NCat, RMulX, NSlL, DFzS, DAug, DCallP, startP, wipeD, IItems, DDGet, DDIn, NSortedD, NListD, MDict, DCBM, DParND, DParNN, DPar3N, DPar3, GPut, DPeek, DNe0, DPop, DLenO, DPar3M, DRepl, DDisp1, DNone1, DLam, kD, DMatch, DArms, NSplit, NSortedS, DStar, DDc, flD, inF, eqF, DPeek1, restS, pickS, DLenSet, DSortSet, RDeq, RDne, RDin, DLc2, IEnAt, IKeys, IEnum, IZip, MStarts1, DStarC, DStarS, isStr, ISeq, RCatT, RSlT, RSum, MJoin2, NRep, DParDN, DExt, DListItems, GLst, DPar3DNN, DPutNew, List.length_cons, List.length_nil, List.map_cons, List.map_nil, List.replicate_succ, List.replicate_zero, List.cons_append, List.nil_append, List.getElem?_cons_zero, List.getElem?_cons_succ, List.set_cons_zero, List.set_cons_succ, Nat.reduceAdd, Nat.reduceSub, Nat.zero_add, Bool.not_true, Bool.not_false, Bool.false_eq_true, if_true, if_false, reduceIte, reduceCtorEq, beq_self_eq_true, Bool.true_or, Bool.or_true, Bool.false_or, Bool.or_false, String.reduceBEq, Option.some.injEq, false_and, and_false, exists_const, true_and, and_true, PyData.str.injEq, exists_eq', exists_eq_left', Nat.reduceLeDiff, DV.l.injEq, DV.m.injEq, DV.pot.injEq, List.all_cons, List.all_nil, List.any_cons, List.any_nil, Bool.and_self, Bool.and_true, Bool.true_and, List.zipWith_cons_cons, List.zipWith_nil_right])
theorem lay_all : ∀ {xs : List PyData}, (∀ x ∈ xs, x.canLay0 = true) → PyData.canLayAll0 xs = true
  | [], _ => rfl
  | x :: xs, h => by
    simp only [PyData.canLayAll0, Bool.and_eq_true]
    exact ⟨h x List.mem_cons_self, lay_all fun y hy => h y (List.mem_cons_of_mem _ hy)⟩
theorem depth_all {n : Nat} : ∀ {xs : List PyData}, (∀ x ∈ xs, x.depth ≤ n) → PyData.depthAll xs ≤ n
  | [], _ => by simp [PyData.depthAll]
  | x :: xs, h => by
    have := depth_all (n := n) fun y hy => h y (List.mem_cons_of_mem _ hy)
    have := h x List.mem_cons_self
    simp only [PyData.depthAll]
    omega
theorem okE_tupAll {xs : List PyData} (h : ∀ x ∈ xs, noC false true x = true ∧ x.canLay0 = true ∧ x.depth ≤ 8) : okE (.tuple xs) = true := by
  unfold okE SeqAt.shaped
  have d := depth_all fun x hx => (h x hx).2.2
  rw [noC_tup fun x hx => (h x hx).1]
  simp only [PyData.canLay0, lay_all fun x hx => (h x hx).2.1, PyData.depth, Bool.true_and]
  exact decide_eq_true (by omega)
def isBig : Form → Bool
  | .list _ _ _ => true
  | .record _ _ => true
  | .either _ => true
  | .tagged _ _ => true
  | _ => false
def setF (fs : Forms) (x : Str) (f' : Form) : Forms := fs.map fun r => if r.1 = x then (r.1, f') else r
theorem set_names (fs : Forms) (x : Str) (f' : Form) : (setF fs x f').map (·.1) = fs.map (·.1) := by
  unfold setF
  rw [List.map_map]
  apply List.map_congr_left
  intro r _
  simp only [Function.comp]
  split <;> rfl
theorem set_put {fs : Forms} {x : Str} (f' : Form) (h : x ∈ fs.map (·.1)) : putP (encP fs) x (encF f') = encP (setF fs x f') := by
  unfold putP
  rw [if_pos (by
    rw [List.any_eq_true]
    obtain ⟨r, hr, e⟩ := List.mem_map.mp h
    exact ⟨(r.1, encF r.2), List.mem_map.mpr ⟨r, hr, rfl⟩, decide_eq_true e⟩)]
  unfold encP setF
  rw [List.map_map, List.map_map]
  apply List.map_congr_left
  intro r _
  simp only [Function.comp]
  split <;> rfl
theorem set_good {fs : Forms} {x : Str} {f' : Form} (g : GoodL fs) (gf : gForm f') : GoodL (setF fs x f') := by
  have hn := set_names fs x f'
  refine ⟨fun q => g.ne ?_, ?_, by rw [hn]; exact g.nd, fun r hr => ?_, fun r hr => ?_⟩
  · rw [q] at hn
    exact List.map_eq_nil_iff.mp hn.symm
  · unfold setF
    rw [List.length_map]
    exact g.few
  · have : r.1 ∈ (setF fs x f').map (·.1) := List.mem_map.mpr ⟨r, hr, rfl⟩
    rw [hn] at this
    obtain ⟨q, hq, e⟩ := List.mem_map.mp this
    rw [← e]
    exact g.nm q hq
  · unfold setF at hr
    obtain ⟨q, hq, rfl⟩ := List.mem_map.mp hr
    split
    · exact gf
    · exact g.gf q hq
theorem set_big {fs : Forms} {x : Str} {f f' : Form} (nd : (fs.map (·.1)).Nodup) (hf : lookF x fs = some f) (b : Big fs) (h : isEither f = true → isEither f' = true) : Big (setF fs x f') := by
  obtain ⟨r, hr, e⟩ := b
  unfold setF
  by_cases q : r.1 = x
  · refine ⟨(r.1, f'), List.mem_map.mpr ⟨r, hr, by rw [if_pos q]⟩, h ?_⟩
    have := lookF_of nd (show (r.1, r.2) ∈ fs from hr)
    rw [q, hf] at this
    rw [Option.some.inj this]
    exact e
  · exact ⟨r, List.mem_map.mpr ⟨r, hr, by rw [if_neg q]⟩, e⟩
theorem put_in {α β : Type} {l : List α} {n : Nat} {a a' : α} (h : l[n]? = some a) (f : α → β) (e : f a' = f a) : (l.take n ++ [a'] ++ l.drop (n + 1)).map f = l.map f := by
  have hi := List.getElem?_eq_some_iff.mp h
  have e2 : l = l.take n ++ a :: l.drop (n + 1) := by rw [← hi.2, ← List.drop_eq_getElem_cons hi.1, List.take_append_drop]
  conv => rhs; rw [e2]
  rw [List.append_assoc, List.map_append, List.map_append, List.map_append, List.map_cons]
  simp [e]
theorem put_mem {α : Type} {l : List α} {n : Nat} {a' b : α} (h : b ∈ l.take n ++ [a'] ++ l.drop (n + 1)) : b = a' ∨ b ∈ l := by
  simp only [List.mem_append, List.mem_singleton] at h
  rcases h with (q | q) | q
  · exact .inr (List.mem_of_mem_take q)
  · exact .inl q
  · exact .inr (List.mem_of_mem_drop q)
theorem put_len {α : Type} {l : List α} {n : Nat} {a' : α} (h : n < l.length) : (l.take n ++ [a'] ++ l.drop (n + 1)).length = l.length := by
  simp only [List.length_append, List.length_take, List.length_singleton, List.length_drop]
  omega
theorem put_nd {l : List Str} {n : Nat} {o : Str} (nd : l.Nodup) (ho : o ∉ l) : (l.take n ++ [o] ++ l.drop (n + 1)).Nodup := by
  have h : (l.take n ++ l.drop (n + 1)).Nodup := by
    refine nd.sublist ?_
    conv => rhs; rw [← List.take_append_drop n l]
    refine List.Sublist.append_left ?_ _
    rw [← List.drop_drop]
    exact List.drop_sublist _ _
  have pm : (l.take n ++ [o] ++ l.drop (n + 1)).Perm (o :: (l.take n ++ l.drop (n + 1))) := by
    rw [List.append_assoc]
    exact List.perm_middle
  rw [pm.nodup_iff, List.nodup_cons]
  refine ⟨fun q => ho ?_, h⟩
  rcases List.mem_append.mp q with q | q
  · exact List.mem_of_mem_take q
  · exact List.mem_of_mem_drop q
def keepB (fs : Forms) : PyData → Bool
  | .str u => match lookF u fs with
    | some f => isBig f
    | none => false
  | _ => false
theorem big_tag {f : Form} (fo : okF f) : inF (.str (tagF f)) [.str (Str.ofString "list"), .str (Str.ofString "record"), .str (Str.ofString "either"), .str (Str.ofString "tagged")] = isBig f := by
  cases f with
  | bare w => rcases fo with e | e | e <;> (subst e; decide +kernel)
  | _ => simp only [tagF, isBig]; decide +kernel
section
variable {P : Program} {w : World} {K : PySem.W.Frag} {mg : Str → Option Value} {base : Heap}
def FBent : DP := fun c ds Kk => ∃ fs : Forms, ds = [encD fs] ∧ GoodL fs ∧ Big fs ∧ c < 900000 ∧ ∀ (fs' : Forms) (c' : Int), GoodL fs' → Big fs' → c' ≤ c + 10 → Kk (encD fs') c'
theorem ok_bent (T : Tx P K mg) : FnOk P w K mg base CX0 3 T.a__law_bent_lore T.fd__law_bent_lore ["_law_pot", "_law_lore_here"] (spP FBent) := by
  have G__law_of := okP_of (w := w) (base := base) T
  have G__law_take := okP_take (w := w) (base := base) T
  refine Dw.okP T.F__law_bent_lore sc__law_bent_lore (by decide) (fun c ds Kk h => ?_) (fun cdv A outer s H E p c ds Kk hr h => ⟨_, _, (pss_cons (ps_fzS (i := 2) (ps_setLc (i := 2) (own := [("_law_name", 3)]) (g := gName 3) (by rfl) sc__law_bent_lore.nd rfl rfl (sw_true rfl rfl rfl (by decide +kernel)) (pi_keys (pv 1)) (blkOk_by (own := [("_law_name", 3)]) (N := ["_law_pot", "_law_lore_here", "_law_names", "_law_name", "_law_form", "_law_other", "_law_found", "_law_at", "_law_row"]) (sc := defScope s__law_bent_lore) (by decide +kernel)) (fun _ _ _ _ _ => (pg_name (i := 3) sc__law_bent_lore.nd rfl (Or.inl rfl))) (fun _ _ _ _ _ => (pts_one (pt_cmpR dInX (pe_ix dIx (pe_dget (hu_of hr) (pv 1) (pv 3) (fun _ _ => rfl)) pe_int (fun _ _ => rfl)) (pe_tup (pa_cons pe_str (pa_cons pe_str (pa_cons pe_str (pa_cons pe_str pa_nil))))) (by rfl)))) (fun _ _ _ _ _ => (pv 3))))
      (pss_cons (ps_set (i := 3) sc__law_bent_lore.nd rfl (Or.inl rfl) (pe_call G__law_of (hr.mono (by first | decide | omega)) (by rfl) T.m__law_of T.F__law_of.kp T.b__law_of .nil pass0 (pa_cons (pv 0) (pa_cons (pv 2) pa_nil))))
      (pss_cons (ps_par (i := 4) (j := 5) (by rfl) sc__law_bent_lore.nd rfl rfl (by decide) rfl rfl (pa_cons (pe_dget (hu_of hr) (pv 1) (pv 3) (fun _ _ => rfl)) (pa_cons (pe_call G__law_of (hr.mono (by first | decide | omega)) (by rfl) T.m__law_of T.F__law_of.kp T.b__law_of .nil pass0 (pa_cons (pv 0) (pa_cons (pe_fz (pe_op dCat (pe_fz (pe_callTy (dListD rfl) (by rfl) T.n_list PyProof.Rows.Boot.«list» (pa_cons (pv 1) pa_nil))) (pe_fz (pe_lst (pa_cons pe_str (pa_cons pe_str pa_nil)))))) pa_nil))) pa_nil)) (by rfl))
      (pss_cons (ps_set (i := 6) sc__law_bent_lore.nd rfl (Or.inl rfl) (pe_callTy (dDictP rfl) (by rfl) T.n_dict PyProof.Rows.Boot.«dict» (pa_cons (pe_fz (pe_listItemsR (by rfl) (pv 1) (by rfl) T.n_list PyProof.Rows.Boot.«list»)) pa_nil)))
      (pss_cons (ps_if (pt_cmpR dEq (pe_ix dIx (pv 4) pe_int (fun _ _ => rfl)) pe_str (nomark _)) (pss_one (ps_asg (pe_op dCatT (pe_tup (pa_cons (pe_ix dIx (pv 4) pe_int (fun _ _ => rfl)) (pa_cons (pv 5) pa_nil))) (pe_slice dSlT (pv 4) (po_some pe_int) po_none)) (pg_sub (pv 6) (pv 3) (set_dict (hu_of hr))))) pss_nil)
      (pss_cons (ps_if (PW.pt (pw_and (pt_cmpR dInX (pe_ix dIx (pv 4) pe_int (fun _ _ => rfl)) (pe_tup (pa_cons pe_str (pa_cons pe_str pa_nil))) (by rfl)) (pw_and1 (pt_cmpR (dNeD (h64 hr)) (pe_ix dIx (pv 4) pe_int (fun _ _ => rfl)) (pe_tup pa_nil) (nomark _))))) (pss_cons (ps_set (i := 7) sc__law_bent_lore.nd rfl (Or.inl rfl) (pe_call G__law_take (hr.mono (by first | decide | omega)) (by rfl) T.m__law_take T.F__law_take.kp T.b__law_take .nil pass0 (pa_cons (pv 0) (pa_cons (pe_callB dLen (by rfl) T.n_len PyProof.Rows.Boot.«len» (pa_cons (pe_ix dIx (pv 4) pe_int (fun _ _ => rfl)) pa_nil)) pa_nil))))
      (pss_cons (ps_set (i := 8) sc__law_bent_lore.nd rfl (Or.inl rfl) (pe_op dCatT (pe_tup (pa_cons (pe_ix dIx (pe_ix dIx (pe_ix dIx (pv 4) pe_int (fun _ _ => rfl)) (pv 7) (fun _ _ => rfl)) pe_int (fun _ _ => rfl)) (pa_cons (pv 5) pa_nil))) (pe_slice dSlT (pe_ix dIx (pe_ix dIx (pv 4) pe_int (fun _ _ => rfl)) (pv 7) (fun _ _ => rfl)) (po_some pe_int) po_none)))
      (pss_one (ps_asg (pe_op dCatT (pe_slice dSlT (pv 4) po_none (po_some pe_int)) (pe_tup (pa_cons (pe_op dCatT (pe_op dCatT (pe_slice dSlT (pe_ix dIx (pv 4) pe_int (fun _ _ => rfl)) po_none (po_some (pv 7))) (pe_tup (pa_cons (pv 8) pa_nil))) (pe_slice dSlT (pe_ix dIx (pv 4) pe_int (fun _ _ => rfl)) (po_some (pe_op dAddX (pv 7) pe_int)) po_none)) pa_nil))) (pg_sub (pv 6) (pv 3) (set_dict (hu_of hr))))))) pss_nil)
      (pss_cons (ps_if (PW.pt (pw_and (pt_cmpR dEq (pe_ix dIx (pv 4) pe_int (fun _ _ => rfl)) pe_str (nomark _)) (pw_and1 (pt_cmpR dNotInX (pv 5) (pe_ix dIx (pv 4) pe_int (fun _ _ => rfl)) (by rfl))))) (pss_cons (ps_set (i := 7) sc__law_bent_lore.nd rfl (Or.inl rfl) (pe_call G__law_take (hr.mono (by first | decide | omega)) (by rfl) T.m__law_take T.F__law_take.kp T.b__law_take .nil pass0 (pa_cons (pv 0) (pa_cons (pe_callB dLen (by rfl) T.n_len PyProof.Rows.Boot.«len» (pa_cons (pe_ix dIx (pv 4) pe_int (fun _ _ => rfl)) pa_nil)) pa_nil))))
      (pss_one (ps_asg (pe_tup (pa_cons (pe_ix dIx (pv 4) pe_int (fun _ _ => rfl)) (pa_cons (pe_op dCatT (pe_op dCatT (pe_slice dSlT (pe_ix dIx (pv 4) pe_int (fun _ _ => rfl)) po_none (po_some (pv 7))) (pe_tup (pa_cons (pv 5) pa_nil))) (pe_slice dSlT (pe_ix dIx (pv 4) pe_int (fun _ _ => rfl)) (po_some (pe_op dAddX (pv 7) pe_int)) po_none)) pa_nil))) (pg_sub (pv 6) (pv 3) (set_dict (hu_of hr)))))) pss_nil)
      (pss_one (ps_ret (pe_fz (pv 6))))))))))), inferInstance, ?_⟩)
  · obtain ⟨fs, rfl, _⟩ := h
    rfl
  obtain ⟨fs, rfl, g, big, hc, k⟩ := h
  change (_ : TDS) (DDp p Kk) _
  generalize h3 : DSeq (DIfS (DAnd _ (DB (DOp (RInX true) _ _))) _ _) (DRet _) = U3
  generalize h2 : DSeq (DIfS (DAnd _ _) _ _) U3 = U2
  generalize h1 : DSeq (DIfS (DB _) _ _) U2 = U1
  rw [show startP _ p c [encD fs] = [some (.pot p c), some (.d (encD fs)), none, none, none, none, none, none, none] from rfl]
  have few := g.few
  have bend : ∀ (x : Str) (f : Form) (o : Str) (c' : Int) (x2 x7 x8 : Option DV), lookF x fs = some f → isBig f = true → isNmS o = true → c' ≤ c + 5 → U1 (DDp p Kk) [some (.pot p c'), some (.d (encD fs)), x2, some (.d (.str x)), some (.d (encF f)), some (.d (.str o)), some (.m (strP (encP fs))), x7, x8] := by
    intro x f o c' x2 x7 x8 hf hb ho hc'
    have hxm : x ∈ fs.map (·.1) := List.mem_map.mpr ⟨_, lookF_mem hf, rfl⟩
    have gf : gForm f := g.gf _ (lookF_mem hf)
    have hle : (encP fs).length < 1000000 := by
      unfold encP
      rw [List.length_map]
      omega
    have pass3 : ∀ (found : Forms) (c' : Int) (x7 x8 : Option DV), tagF f ≠ Str.ofString "either" → GoodL found → Big found → c' ≤ c + 6 → U3 (DDp p Kk) [some (.pot p c'), some (.d (encD fs)), x2, some (.d (.str x)), some (.d (encF f)), some (.d (.str o)), some (.m (strP (encP found))), x7, x8] := by
      intro found c' x7 x8 ht g2 b2 hc2
      rw [← h3, encF_tag]
      walk_at "d"
      refine ⟨_, at_0 _ _, ?_⟩
      dsimp only
      rw [if_neg (by rw [decide_eq_true_eq]; exact ht)]
      exact ⟨_, rfl, k found _ g2 b2 (by omega)⟩
    have pass1 : tagF f ≠ Str.ofString "list" → U2 (DDp p Kk) [some (.pot p c'), some (.d (encD fs)), x2, some (.d (.str x)), some (.d (encF f)), some (.d (.str o)), some (.m (strP (encP fs))), x7, x8] → U1 (DDp p Kk) [some (.pot p c'), some (.d (encD fs)), x2, some (.d (.str x)), some (.d (encF f)), some (.d (.str o)), some (.m (strP (encP fs))), x7, x8] := by
      intro ht q
      rw [← h1]
      rw [encF_tag] at q ⊢
      walk_at "d"
      refine ⟨_, at_0 _ _, ?_⟩
      dsimp only
      rw [if_neg (by rw [decide_eq_true_eq]; exact ht)]
      exact q
    cases f with
    | bare w => cases hb
    | int lo hi => cases hb
    | word ws => cases hb
    | list kd lo hi =>
      have q3 := pass3 (setF fs x (.list o lo hi)) c' x7 x8 (by simp only [tagF]; decide) (set_good g ⟨ho, gf.2⟩) (set_big g.nd hf big (fun z => by cases z)) (by omega)
      simp only [encF] at q3 ⊢
      have q2 : ∀ found : List (PyData × PyData), U3 (DDp p Kk) [some (.pot p c'), some (.d (encD fs)), x2, some (.d (.str x)), some (.d (.tuple [.str (Str.ofString "list"), .str kd, .int lo, optI hi])), some (.d (.str o)), some (.m found), x7, x8] → U2 (DDp p Kk) [some (.pot p c'), some (.d (encD fs)), x2, some (.d (.str x)), some (.d (.tuple [.str (Str.ofString "list"), .str kd, .int lo, optI hi])), some (.d (.str o)), some (.m found), x7, x8] := by
        intro found q
        rw [← h2]
        walk_at "d"
        refine ⟨_, at_0 _ _, ?_⟩
        dsimp only
        refine ⟨by first | exact rfl | exact trivial, ?_⟩
        rw [if_neg (by decide)]
        exact q
      rw [← h1]
      walk_at "d"
      simp only [at_0, at_1, at_2, at_3, Option.some.injEq, exists_eq_left']
      rw [if_pos (by decide)]
      rw [show Dw.cutD [PyData.str (Str.ofString "list"), PyData.str kd, PyData.int lo, optI hi] (some 2) none = [PyData.int lo, optI hi] from cut_drop [PyData.str (Str.ofString "list"), PyData.str kd, PyData.int lo, optI hi] (r := 2) (by simp)]
      refine ⟨by simp, encP fs, rfl, hle, ?_⟩
      rw [← set_put _ hxm] at q3
      exact q2 _ q3
    | record op rows =>
      refine pass1 (by simp only [tagF]; decide) ?_
      simp only [encF] at pass3 ⊢
      rw [← h2]
      clear h1 h2 h3
      walk_at "d"
      simp only [at_0, at_1, at_2, at_3, Option.some.injEq, exists_eq_left']
      refine ⟨by first | exact rfl | exact trivial, ?_⟩
      rw [if_pos (by decide)]
      refine ⟨okE_tupAll fun y hy => ?_, by decide +kernel, ?_⟩
      · obtain ⟨r, hr, rfl⟩ := List.mem_map.mp hy
        have n1 := nm_strOk (are_mem gf.1 (List.mem_map.mpr ⟨r, hr, rfl⟩))
        have n2 := nm_strOk (gf.2.2 r hr)
        exact ⟨rfl, by simp [PyData.canLay0, PyData.canLayAll0, n1, n2], by simp [PyData.depth, PyData.depthAll]⟩
      have hev : PyData.eqv (.tuple (rows.map fun r => .tuple [.str r.1, .str r.2.1, .bool r.2.2])) (.tuple []) = decide (rows = []) := by
        cases rows <;> simp [PyData.eqv, PyData.eqvAll]
      rw [hev]
      by_cases hr0 : rows = []
      · rw [if_neg (by rw [decide_eq_true hr0]; decide)]
        exact pass3 fs _ _ _ (by simp only [tagF]; decide) g big (by omega)
      rw [if_pos (by rw [decide_eq_false hr0]; decide)]
      have hrl := List.length_pos_iff.mpr hr0
      have hr6 := gf.2.1
      refine ⟨⟨_, _, rfl, rfl⟩, _, rfl, by omega, by rw [List.length_map]; omega, by rw [List.length_map]; omega, fun t ht => ?_⟩
      rw [List.length_map] at ht
      have ht : t < rows.length := by omega
      obtain ⟨r, hr⟩ : ∃ r, rows[t]? = some r := ⟨_, List.getElem?_eq_getElem ht⟩
      dsimp only
      have ha : atI (rows.map fun r => PyData.tuple [.str r.1, .str r.2.1, .bool r.2.2]) (t : Int) = some (.tuple [.str r.1, .str r.2.1, .bool r.2.2]) := at_nat (by rw [List.getElem?_map, hr]; rfl)
      refine ⟨_, ha, ?_⟩
      dsimp only
      refine ⟨_, at_0 _ _, _, ha, ?_⟩
      dsimp only
      have c3 : ∀ a b d : PyData, Dw.cutD [a, b, d] (some 2) none = [d] := fun a b d => cut_drop [a, b, d] (r := 2) (by simp)
      have c4 : ∀ a b d : PyData, Dw.cutD [a, b, d] none (some 2) = [a, b] := fun a b d => cut_take [a, b, d] (r := 2) (by simp)
      have c5 := cut_drop (rows.map fun r => PyData.tuple [.str r.1, .str r.2.1, .bool r.2.2]) (r := t + 1) (by rw [List.length_map]; omega)
      rw [show (((t + 1 : Nat)) : Int) = (t : Int) + 1 by omega] at c5
      rw [c3, c4, c5, cut_take _ (by rw [List.length_map]; omega)]
      refine ⟨by simp, by simp; omega, by simp; omega, by simp, encP fs, rfl, hle, ?_⟩
      have gf2 : gForm (.record op (rows.take t ++ [(r.1, o, r.2.2)] ++ rows.drop (t + 1))) := by
        refine ⟨?_, by rw [put_len ht]; exact hr6, fun q hq => ?_⟩
        · rw [put_in (a' := (r.1, o, r.2.2)) hr (·.1) rfl]
          exact gf.1
        · rcases put_mem hq with rfl | hq
          · exact ho
          · exact gf.2.2 q hq
      have q3 := pass3 (setF fs x (.record op (rows.take t ++ [(r.1, o, r.2.2)] ++ rows.drop (t + 1)))) (c' + 1) (some (.d (.int t))) (some (.d (.tuple [.str r.1, .str o, .bool r.2.2]))) (by simp only [tagF]; decide) (set_good g gf2) (set_big g.nd hf big (fun z => by cases z)) (by omega)
      rw [← set_put _ hxm] at q3
      simp only [encF, List.map_append, List.map_take, List.map_drop, List.map_cons, List.map_nil] at q3
      exact q3
    | tagged fd rows =>
      refine pass1 (by simp only [tagF]; decide) ?_
      simp only [encF] at pass3 ⊢
      rw [← h2]
      clear h1 h2 h3
      walk_at "d"
      simp only [at_0, at_1, at_2, at_3, Option.some.injEq, exists_eq_left']
      refine ⟨by first | exact rfl | exact trivial, ?_⟩
      rw [if_pos (by decide)]
      refine ⟨okE_tupAll fun y hy => ?_, by decide +kernel, ?_⟩
      · obtain ⟨r, hr, rfl⟩ := List.mem_map.mp hy
        have n1 := nm_strOk (are_mem gf.2.2.2.1 (List.mem_map.mpr ⟨r, hr, rfl⟩))
        have n2 := nm_strOk (gf.2.2.2.2 r hr)
        exact ⟨rfl, by simp [PyData.canLay0, PyData.canLayAll0, n1, n2], by simp [PyData.depth, PyData.depthAll]⟩
      have hev : PyData.eqv (.tuple (rows.map fun r => .tuple [.str r.1, .str r.2])) (.tuple []) = decide (rows = []) := by
        cases rows <;> simp [PyData.eqv, PyData.eqvAll]
      rw [hev]
      have hr0 := gf.2.1
      rw [if_pos (by rw [decide_eq_false hr0]; decide)]
      have hrl := List.length_pos_iff.mpr hr0
      have hr6 := gf.2.2.1
      refine ⟨⟨_, _, rfl, rfl⟩, _, rfl, by omega, by rw [List.length_map]; omega, by rw [List.length_map]; omega, fun t ht => ?_⟩
      rw [List.length_map] at ht
      have ht : t < rows.length := by omega
      obtain ⟨r, hr⟩ : ∃ r, rows[t]? = some r := ⟨_, List.getElem?_eq_getElem ht⟩
      dsimp only
      have ha : atI (rows.map fun r => PyData.tuple [.str r.1, .str r.2]) (t : Int) = some (.tuple [.str r.1, .str r.2]) := at_nat (by rw [List.getElem?_map, hr]; rfl)
      refine ⟨_, ha, ?_⟩
      dsimp only
      refine ⟨_, at_0 _ _, _, ha, ?_⟩
      dsimp only
      have c2 : ∀ a b : PyData, Dw.cutD [a, b] (some 2) none = [] := fun a b => cut_drop [a, b] (r := 2) (by simp)
      have c4 : ∀ a b d : PyData, Dw.cutD [a, b, d] none (some 2) = [a, b] := fun a b d => cut_take [a, b, d] (r := 2) (by simp)
      have c5 := cut_drop (rows.map fun r => PyData.tuple [.str r.1, .str r.2]) (r := t + 1) (by rw [List.length_map]; omega)
      rw [show (((t + 1 : Nat)) : Int) = (t : Int) + 1 by omega] at c5
      rw [c2, c4, c5, cut_take _ (by rw [List.length_map]; omega)]
      refine ⟨by simp, by simp; omega, by simp; omega, by simp, encP fs, rfl, hle, ?_⟩
      have gf2 : gForm (.tagged fd (rows.take t ++ [(r.1, o)] ++ rows.drop (t + 1))) := by
        refine ⟨gf.1, fun q => ?_, by rw [put_len ht]; exact hr6, ?_, fun q hq => ?_⟩
        · have := congrArg List.length q
          rw [put_len ht] at this
          rw [List.length_nil] at this
          omega
        · rw [put_in (a' := (r.1, o)) hr (·.1) rfl]
          exact gf.2.2.2.1
        · rcases put_mem hq with rfl | hq
          · exact ho
          · exact gf.2.2.2.2 q hq
      have q3 := pass3 (setF fs x (.tagged fd (rows.take t ++ [(r.1, o)] ++ rows.drop (t + 1)))) (c' + 1) (some (.d (.int t))) (some (.d (.tuple [.str r.1, .str o]))) (by simp only [tagF]; decide) (set_good g gf2) (set_big g.nd hf big (fun z => by cases z)) (by omega)
      rw [← set_put _ hxm] at q3
      simp only [encF, List.map_append, List.map_take, List.map_drop, List.map_cons, List.map_nil] at q3
      exact q3
    | either ms =>
      refine pass1 (by simp only [tagF]; decide) ?_
      simp only [encF]
      rw [← h2]
      walk_at "d"
      simp only [at_0, at_1, at_2, at_3, Option.some.injEq, exists_eq_left']
      refine ⟨by first | exact rfl | exact trivial, ?_⟩
      rw [if_neg (by decide), ← h3]
      clear h1 h2 h3
      walk_at "d"
      simp only [at_0, at_1, at_2, at_3, Option.some.injEq, exists_eq_left']
      rw [if_pos (by decide)]
      have e3 := in_strs o ms
      simp only [inF, eqF] at e3
      rw [e3]
      refine ⟨fl_strs _, ?_⟩
      by_cases hin : o ∈ ms
      · rw [decide_eq_true hin, if_neg (by decide)]
        exact ⟨_, rfl, k fs _ g big (by omega)⟩
      rw [decide_eq_false hin, if_pos (by decide)]
      have hr2 := gf.1
      have hr6 := gf.2.1
      refine ⟨⟨_, _, rfl, rfl⟩, _, rfl, by omega, by rw [List.length_map]; omega, by rw [List.length_map]; omega, fun t ht => ?_⟩
      rw [List.length_map] at ht
      have ht : t < ms.length := by omega
      obtain ⟨r, hr⟩ : ∃ r, ms[t]? = some r := ⟨_, List.getElem?_eq_getElem ht⟩
      dsimp only
      have c5 := cut_drop (ms.map PyData.str) (r := t + 1) (by rw [List.length_map]; omega)
      rw [show (((t + 1 : Nat)) : Int) = (t : Int) + 1 by omega] at c5
      rw [c5, cut_take _ (by rw [List.length_map]; omega)]
      refine ⟨by simp; omega, by simp; omega, encP fs, rfl, hle, ?_⟩
      have gf2 : gForm (.either (ms.take t ++ [o] ++ ms.drop (t + 1))) := by
        refine ⟨by rw [put_len ht]; exact hr2, by rw [put_len ht]; exact hr6, ?_⟩
        unfold areNames
        rw [Bool.and_eq_true, List.all_eq_true, decide_eq_true_eq]
        refine ⟨fun q hq => ?_, put_nd (are_nd gf.2.2) hin⟩
        rcases put_mem hq with rfl | hq
        · exact ho
        · exact are_mem gf.2.2 hq
      have q3 := k (setF fs x (.either (ms.take t ++ [o] ++ ms.drop (t + 1)))) (c' + 1) (set_good g gf2) (set_big g.nd hf big (fun _ => rfl)) (by omega)
      unfold encD at q3
      rw [← set_put _ hxm] at q3
      simp only [encF, List.map_append, List.map_take, List.map_drop, List.map_cons, List.map_nil] at q3
      exact ⟨_, rfl, q3⟩
  walk_at "d"
  refine ⟨encP fs, rfl, ?_⟩
  dsimp only
  rw [show ((encP fs).map fun p => PyData.str p.1) = (fs.map (·.1)).map .str by unfold encP; rw [List.map_map, List.map_map]; rfl]
  refine lc_filter id (keepB fs) (fun j y hy Q Qn hQ hN => ?_) ?_ (by rw [List.length_map, List.length_map]; omega)
  · obtain ⟨u, hu, rfl⟩ := map_strs hy
    have huF : hasF fs u = true := decide_eq_true (List.mem_of_getElem? hu)
    obtain ⟨f, hf⟩ : ∃ f, lookF u fs = some f := by
      unfold hasF at huF
      rw [← lookF_some] at huF
      exact Option.isSome_iff_exists.mp huF
    have fo := gf_ok (g.gf _ (lookF_mem hf))
    walk_at "d"
    refine ⟨encP fs, rfl, encF f, by rw [look_enc, hf]; rfl, ?_⟩
    rw [encF_tag]
    refine ⟨.str (tagF f), at_0 _ _, ?_⟩
    have hb := big_tag fo
    unfold inF at hb
    simp only [List.any_cons, List.any_nil, eqF, Bool.or_false] at hb
    refine ⟨rfl, ?_⟩
    dsimp only
    rw [hb]
    have ek : keepB fs (.str u) = isBig f := by simp only [keepB, hf]
    cases hbb : isBig f with
    | true =>
      rw [if_pos rfl]
      exact hQ (by rw [ek, hbb]) _ rfl
    | false =>
      rw [if_neg (by decide)]
      exact hN (by rw [ek, hbb]) _ rfl
  · rw [List.map_id]
    walk_at "d"
    refine ⟨⟨_, _, rfl, rfl⟩, _, rfl, by omega, fun q => ?_, ?_, fun d hd => ?_⟩
    · obtain ⟨r, hr, e⟩ := big
      rw [List.filter_eq_nil_iff] at q
      refine q (.str r.1) (List.mem_map.mpr ⟨r.1, List.mem_map.mpr ⟨r, hr, rfl⟩, rfl⟩) ?_
      have := lookF_of g.nd (show (r.1, r.2) ∈ fs from hr)
      simp only [keepB, this]
      cases hr2 : r.2 <;> rw [hr2] at e <;> first | rfl | cases e
    · refine Nat.lt_of_le_of_lt (List.length_filter_le _ _) ?_
      rw [List.length_map, List.length_map]
      omega
    obtain ⟨hd1, hd2⟩ := List.mem_filter.mp hd
    obtain ⟨u, hu, rfl⟩ := List.mem_map.mp hd1
    have huF : hasF fs u = true := decide_eq_true hu
    obtain ⟨f, hf⟩ : ∃ f, lookF u fs = some f := by
      unfold hasF at huF
      rw [← lookF_some] at huF
      exact Option.isSome_iff_exists.mp huF
    have hbf : isBig f = true := by simpa only [keepB, hf] using hd2
    refine ⟨encP fs, rfl, ?_⟩
    dsimp only
    refine ⟨encF f, by rw [look_enc, hf]; rfl, ⟨_, _, rfl, rfl⟩, encP fs, rfl, ?_⟩
    dsimp only
    rw [show ((encP fs).map fun p => PyData.str p.1) = (fs.map (·.1)).map .str by unfold encP; rw [List.map_map, List.map_map]; rfl]
    refine ⟨by rw [List.length_map, List.length_map]; omega, ?_⟩
    refine ⟨_, rfl, by omega, by simp, by simp; omega, fun d2 hd2 => ?_⟩
    obtain ⟨o, rfl, ho⟩ : ∃ o, d2 = .str o ∧ isNmS o = true := by
      rcases List.mem_append.mp hd2 with q | q
      · obtain ⟨o, ho, rfl⟩ := List.mem_map.mp q
        obtain ⟨r, hr, rfl⟩ := List.mem_map.mp ho
        exact ⟨_, rfl, g.nm r hr⟩
      · simp only [List.mem_cons, List.not_mem_nil, or_false] at q
        rcases q with rfl | rfl <;> exact ⟨_, rfl, by decide +kernel⟩
    refine ⟨encP fs, rfl, encP fs, rfl, ?_⟩
    rw [merge_nd _ [] (by rw [enc_names]; exact g.nd), List.nil_append]
    exact bend u f o _ _ _ _ hf hbf ho (by omega)
end
end Bk
end
section
--@@ genb
set_option Elab.async false
set_option linter.all false
set_option maxRecDepth 100000
set_option maxHeartbeats 8000000
set_option pp.maxSteps 1500
namespace Bk
open PySem PySem.Spec PyProof.Rows L2 Tg LamX
local macro_rules | `(tactic| walk_at "c") => `(tactic| first | assumption | trivial | omega | (constructor <;> omega) | decide | exact len_ok (Nat.le_of_ble_eq_true rfl))
local macro_rules | `(tactic| walk_at "sq") => `(tactic| first | exact SqL.of (by assumption) | exact SqL.of upd_same | assumption | exact SqT.of (by assumption) | exact SqT.of upd_same | exact .inl (SqL.of (by assumption)) | exact .inr (SqT.of (by assumption)))
local macro_rules | `(tactic| walk_at "r1") => `(tactic| first
  | refine ⟨_, rfl, ?_⟩
  | refine ⟨_, _, rfl, rfl, ?_⟩
  | refine .inl ⟨_, rfl, ?_⟩
  | refine .inr ⟨_, rfl, ?_⟩
  | (apply Exists.intro; apply Exists.intro; apply Exists.intro; apply Exists.intro; refine And.intro rfl (And.intro rfl (And.intro ?sq ?_)); (case sq => walk_at "sq"); refine And.intro rfl ?_)
  | (apply Exists.intro; apply Exists.intro; apply Exists.intro; apply Exists.intro; refine And.intro rfl (And.intro rfl (And.intro ?hp ?_)); (case hp => first | assumption | exact upd_same); refine And.intro rfl ?_)
  | (refine And.intro ?c ?_; (case c => walk_at "c")))
local macro_rules | `(tactic| walk_at "r") => `(tactic| repeat walk_at "r1")
theorem iT {P Q : Prop} (h : P) : if true = true then P else Q := h
theorem iF {P Q : Prop} (h : Q) : if false = true then P else Q := h
theorem len_le (z : Str) (h : z.length + 2 ≤ 1000 := by decide) : z.length + 2 ≤ sizeLine := by rw [sizeLine_eq]; omega
/-- what _law_heard makes of the call: the class's word and the value -/
def TH (Ws : List (Addr × Str)) : (XK → Hp → VK → Prop) → Hp → VK → Prop := fun tl H Q => ∀ H1, Same H H1 → ∃ (Qb : VK) (Eb : XK), tl Eb H1 Qb ∧
  (∀ v H', Qb v H' → ∀ p, H' p = none → Q (.ref p) (upd H' p (.tup [.str "fine", v]))) ∧
  (∀ cls d H', Eb cls d H' → ∃ C wd dd v, (C, wd) ∈ Ws ∧ cls = .ref C ∧ d = some dd ∧ H' dd = some (.xd [("value", v)]) ∧ ∀ H'' p, Same H' H'' → H'' p = some (.tup [.str wd, v]) → Q (.ref p) H'')
section
variable {X : Cx}
abbrev nHeard : List Str := ["_law_call", "_law_caught", "_law_back", "error", "_law_marks", "_law_words"]
abbrev wordsX (T : Tx X.prog X.K X.mg) : List (Addr × Str) := [(T.C_BadBook, Str.ofString "BadBook"), (T.C_Ring, Str.ofString "Ring"), (T.C_Unnamed, Str.ofString "Unnamed")]
theorem heard_gives (T : Tx X.prog X.K X.mg) {cdg : Value} {q : Str} :
    GivesTo X nHeard "_law_heard" (defScope s__law_heard) T.a__law_heard cdg (defBody s__law_heard) "_law_call" q (TH (wordsX T)) := by
  intro f c' s H Q tl act hc h
  have hTry : ∀ {p0 p1 p2 p3 : Pos} (W : WX) (pn : List (Addr × Obj)) (xe : Value → Shared → Prop), Takes ((cxOf C8.CX0 X.prog X.w X.K X.mg X.base nHeard "_law_heard" (defScope s__law_heard) T.a__law_heard cdg X.A X.stack s H C8.E0).nox.tr pn xe) W →
      PassesOwn (model X.prog X.w) (cxOf C8.CX0 X.prog X.w X.K X.mg X.base nHeard "_law_heard" (defScope s__law_heard) T.a__law_heard cdg X.A X.stack s H C8.E0).nox.A (cxOf C8.CX0 X.prog X.w X.K X.mg X.base nHeard "_law_heard" (defScope s__law_heard) T.a__law_heard cdg X.A X.stack s H C8.E0).nox.env xe →
      PSs ((cxOf C8.CX0 X.prog X.w X.K X.mg X.base nHeard "_law_heard" (defScope s__law_heard) T.a__law_heard cdg X.A X.stack s H C8.E0).nox.tr pn xe) [.Assign [.Name "_law_back" p0] (.Call (.Name "_law_call" p1) [] [] p2) p3]
        ((fun (W : WX) (D : Ends) (σ : L2.St) (H : Hp) => ∃ (Ech : XK) (Qb : VK), (∀ cls d σ' H', Ech cls d H' → W cls d σ' H') ∧ σ[0]? = some (some (.ref f)) ∧ H c' = some (CodeO c' q) ∧ tl Ech H Qb ∧ ∀ v H', Qb v H' → D.nx (σ.set 2 (some v)) H') W) := by
    intro p0 p1 p2 p3 W pn xe tk _
    refine ⟨fun pins s' σ H' D I h' => ?_⟩
    obtain ⟨Ech, Qb, hW, h1, h2, h3, h4⟩ := h'
    have hp := act W pn xe Ech p1 p2 tk hW
    have hs := pss_one (ps_set (pos := p3) (pos' := p0) (i := 2) sc__law_heard.nd rfl (Or.inl rfl) (pe_mo hp))
    exact hs.run pins s' σ H' D I ⟨_, ⟨h1, h2, h3⟩, h4⟩
  refine ⟨_, (pss_cons (ps_asg (pe_tup (pa_cons pe_non (pa_cons pe_non pa_nil))) (pg_tup rfl (pgs_cons (pg_name (i := 1) sc__law_heard.nd rfl (Or.inl rfl)) (pgs_cons (pg_name (i := 2) sc__law_heard.nd rfl (Or.inl rfl)) pgs_nil))))
      (pss_cons (ps_try_keep (i := 3) rfl rfl sc__law_heard.nd rfl rfl ⟨rfl, by decide, .inl T.m_TaglessError⟩ rfl hTry (fun a oe cls d pn hz hf => (pss_one (ps_set (i := 1) sc__law_heard.nd rfl (Or.inl rfl) (pv 3)))))
      (pss_cons (ps_if (pt_cmpR op_isN (pv 1) pe_non (nomark _)) (pss_one (ps_ret (pe_tup (pa_cons pe_str (pa_cons (pv 2) pa_nil))))) pss_nil)
      (pss_cons (ps_set (i := 4) sc__law_heard.nd rfl (Or.inl rfl) (pe_lst (pa_cons (pe_callB call_isErr (by rfl) T.n_isinstance PyProof.Rows.Boot.«isinstance» (pa_cons (pv 1) (pa_cons (pe_glob (v := .ref T.C_BadBook) (by rfl) T.m_BadBook rfl) pa_nil))) (pa_cons (pe_callB call_isErr (by rfl) T.n_isinstance PyProof.Rows.Boot.«isinstance» (pa_cons (pv 1) (pa_cons (pe_glob (v := .ref T.C_Ring) (by rfl) T.m_Ring rfl) pa_nil))) (pa_cons (pe_callB call_isErr (by rfl) T.n_isinstance PyProof.Rows.Boot.«isinstance» (pa_cons (pv 1) (pa_cons (pe_glob (v := .ref T.C_Unnamed) (by rfl) T.m_Unnamed rfl) pa_nil))) pa_nil)))))
      (pss_cons (ps_set (i := 5) sc__law_heard.nd rfl (Or.inl rfl) (pe_bm PySem.F.plainAttrs_str PySem.F.slot_str_split PySem.F.type_str_split mt_split pe_str (pa_cons pe_str pa_nil)))
      (pss_cons (ps_if (PW.pt (pw_or (pt_cmpR op_ne (pe_bm PySem.F.plainAttrs_list PySem.F.slot_list_count PySem.F.type_list_count mt_countV (pv 4) (pa_cons pe_bl pa_nil)) pe_int (nomark _)) (pw_or1 (pt_not (pt_val (pe_callB call_isErr (by rfl) T.n_isinstance PyProof.Rows.Boot.«isinstance» (pa_cons (pv 1) (pa_cons (pe_bltn (v := .ty "ValueError") (by rfl) T.n_ValueError PyProof.Rows.Boot.«ValueError» rfl) pa_nil)))))))) (pss_one (ps_ret (pe_tup (pa_cons pe_str (pa_cons pe_non pa_nil))))) pss_nil)
      (pss_one (ps_ret (pe_tup (pa_cons (pe_ix ix_list (pv 5) (pe_bm PySem.F.plainAttrs_list PySem.F.slot_list_index PySem.F.type_list_index mt_index (pv 4) (pa_cons pe_bl pa_nil)) (fun _ _ => rfl)) (pa_cons (pe_value (pv 1)) pa_nil))))))))))), ?_⟩
  refine ⟨len_ok (by show 2 ≤ 1000; decide), fun t nt => ⟨t, _, rfl, SqT.of upd_same, rfl, _, _, rfl, _, _, rfl, rfl, ?_⟩⟩
  have st : Same H (upd H t (.tup [.non, .non])) := same_new nt
  have hc1 := st _ _ hc
  change tSeq _ _ _ _ (upd H t (.tup [.non, .non]))
  generalize upd H t (.tup [.non, .non]) = H1 at st hc1 ⊢
  obtain ⟨Qb, Eb, htl, hq, he⟩ := h H1 st
  refine ⟨Eb, Qb, fun cls d σ' H' e hlen => ?_, rfl, hc1, htl, fun v H' qv => ⟨_, rfl, rfl, true, rfl, iT ⟨_, rfl, len_ok (by show 2 ≤ 1000; decide), fun p np => hq v H' qv p np⟩⟩⟩
  obtain ⟨C, wd, dd, v, hw, rfl, rfl, hdd, fin⟩ := he cls d H' e
  obtain ⟨fC, ec, xm, ve, b1, b2, b3, k1, k2, k3, hb⟩ : ∃ (fC : ErrC X.K T.fI T.D C) (ec : True), PySem.W.exmOne X.K (.ref C) (.ref T.D) = some true ∧ PySem.W.kitOne X.K (.ref C) (.type "ValueError") = some true ∧ ∃ b1 b2 b3, PySem.W.kitOne X.K (.ref C) (.ref T.C_BadBook) = some b1 ∧ PySem.W.kitOne X.K (.ref C) (.ref T.C_Ring) = some b2 ∧ PySem.W.kitOne X.K (.ref C) (.ref T.C_Unnamed) = some b3 ∧ ((b1, b2, b3, wd) = (true, false, false, Str.ofString "BadBook") ∨ (b1, b2, b3, wd) = (false, true, false, Str.ofString "Ring") ∨ (b1, b2, b3, wd) = (false, false, true, Str.ofString "Unnamed")) := by
    simp only [wordsX, List.mem_cons, List.not_mem_nil, or_false, Prod.mk.injEq] at hw
    rcases hw with ⟨rfl, rfl⟩ | ⟨rfl, rfl⟩ | ⟨rfl, rfl⟩
    · exact ⟨T.e_BadBook, trivial, T.x_BadBook, T.v_BadBook, _, _, _, T.k_BadBook_BadBook, T.k_BadBook_Ring, T.k_BadBook_Unnamed, .inl rfl⟩
    · exact ⟨T.e_Ring, trivial, T.x_Ring, T.v_Ring, _, _, _, T.k_Ring_BadBook, T.k_Ring_Ring, T.k_Ring_Unnamed, .inr (.inl rfl)⟩
    · exact ⟨T.e_Unnamed, trivial, T.x_Unnamed, T.v_Unnamed, _, _, _, T.k_Unnamed_BadBook, T.k_Unnamed_Ring, T.k_Unnamed_Unnamed, .inr (.inr rfl)⟩
  refine ⟨true, xm, fun _ => ⟨C, dd, rfl, rfl, fun a na => ?_⟩, fun z => nomatch z⟩
  obtain ⟨x0, x1, x2, x3, x4, x5, rfl⟩ : ∃ x0 x1 x2 x3 x4 x5, σ' = [x0, x1, x2, x3, x4, x5] := by
    match σ', hlen with
    | [x0, x1, x2, x3, x4, x5], _ => exact ⟨x0, x1, x2, x3, x4, x5, rfl⟩
  have s1 : Same H' (upd H' a (exq a C dd)) := same_new na
  have er : Err (upd H' a (exq a C dd)) a C v := ⟨dd, upd_same, s1 _ _ hdd⟩
  refine ⟨_, rfl, ?_⟩
  refine ⟨_, rfl, rfl, false, rfl, iF ?_⟩
  generalize upd H' a (exq a C dd) = H2 at s1 er ⊢
  refine ⟨_, rfl, a, _, v, _, _, b1, rfl, er, fC.xc, ClsV.own _, k1, ?_⟩
  refine ⟨_, rfl, a, _, v, _, _, b2, rfl, er, fC.xc, ClsV.own _, k2, ?_⟩
  refine ⟨_, rfl, a, _, v, _, _, b3, rfl, er, fC.xc, ClsV.own _, k3, len_ok (by show 3 ≤ 1000; decide), fun m nm => ?_⟩
  have s2 : Same H2 (upd H2 m (.lst [.bl b1, .bl b2, .bl b3])) := same_new nm
  have h2 : upd H2 m (.lst [.bl b1, .bl b2, .bl b3]) m = some (.lst [.bl b1, .bl b2, .bl b3]) := upd_same
  generalize upd H2 m (.lst [.bl b1, .bl b2, .bl b3]) = H3 at s2 h2 ⊢
  refine ⟨rfl, _, _, rfl, rfl, rfl, len_le _, fun w nw => ?_⟩
  rw [show Txt.split "BadBook Ring Unnamed" " " = [Str.ofString "BadBook", Str.ofString "Ring", Str.ofString "Unnamed"] from by decide +kernel]
  have s3 : Same H3 (upd H3 w (.lst [.str "BadBook", .str "Ring", .str "Unnamed"])) := same_new nw
  have h3 : upd H3 w (.lst [.str "BadBook", .str "Ring", .str "Unnamed"]) w = some (.lst [.str "BadBook", .str "Ring", .str "Unnamed"]) := upd_same
  have h2' := s3 _ _ h2
  have er' : Err (upd H3 w (.lst [.str "BadBook", .str "Ring", .str "Unnamed"])) a C v := (er.keep s2).keep s3
  have ss : Same H' (upd H3 w (.lst [.str "BadBook", .str "Ring", .str "Unnamed"])) := s1.trans (s2.trans s3)
  change tSeq _ _ _ _ (upd H3 w (.lst [.str "BadBook", .str "Ring", .str "Unnamed"]))
  generalize upd H3 w (.lst [.str "BadBook", .str "Ring", .str "Unnamed"]) = H4 at h3 h2' er' ss ⊢
  rcases hb with hb | hb | hb <;> (simp only [Prod.mk.injEq] at hb; obtain ⟨rfl, rfl, rfl, rfl⟩ := hb)
  · refine ⟨_, rfl, .inl ⟨rfl, _, SqL.of h2'⟩, m, _, _, rfl, rfl, SqL.of h2', rfl, rfl, rfl, _, rfl, ?_⟩
    refine ⟨_, rfl, a, _, v, _, _, true, rfl, er', fC.xc, .ty _, ve, _, rfl, ?_⟩
    refine iF ?_
    refine ⟨_, rfl, _, rfl, .inl ⟨rfl, _, SqL.of h2'⟩, m, _, _, 0, _, rfl, rfl, SqL.of h2', rfl, rfl, rfl, rfl, fun k z hk => absurd hk (Nat.not_lt_zero _), ?_⟩
    refine ⟨w, _, _, _, rfl, rfl, SqL.of h3, rfl, ?_⟩
    refine ⟨_, rfl, a, _, v, rfl, er', fC.xc, fC.no, len_ok (by show 2 ≤ 1000; decide), fun p np => ?_⟩
    exact fin _ p (ss.trans (same_new np)) upd_same
  · refine ⟨_, rfl, .inl ⟨rfl, _, SqL.of h2'⟩, m, _, _, rfl, rfl, SqL.of h2', rfl, rfl, rfl, _, rfl, ?_⟩
    refine ⟨_, rfl, a, _, v, _, _, true, rfl, er', fC.xc, .ty _, ve, _, rfl, ?_⟩
    refine iF ?_
    refine ⟨_, rfl, _, rfl, .inl ⟨rfl, _, SqL.of h2'⟩, m, _, _, 1, _, rfl, rfl, SqL.of h2', rfl, rfl, rfl, rfl, ?_, ?_⟩
    · intro m' z hm hz
      match m', hm with
      | 0, _ => cases hz; rfl
    refine ⟨w, _, _, _, rfl, rfl, SqL.of h3, rfl, ?_⟩
    refine ⟨_, rfl, a, _, v, rfl, er', fC.xc, fC.no, len_ok (by show 2 ≤ 1000; decide), fun p np => ?_⟩
    exact fin _ p (ss.trans (same_new np)) upd_same
  · refine ⟨_, rfl, .inl ⟨rfl, _, SqL.of h2'⟩, m, _, _, rfl, rfl, SqL.of h2', rfl, rfl, rfl, _, rfl, ?_⟩
    refine ⟨_, rfl, a, _, v, _, _, true, rfl, er', fC.xc, .ty _, ve, _, rfl, ?_⟩
    refine iF ?_
    refine ⟨_, rfl, _, rfl, .inl ⟨rfl, _, SqL.of h2'⟩, m, _, _, 2, _, rfl, rfl, SqL.of h2', rfl, rfl, rfl, rfl, ?_, ?_⟩
    · intro m' z hm hz
      match m', hm with
      | 0, _ => cases hz; rfl
      | 1, _ => cases hz; rfl
    refine ⟨w, _, _, _, rfl, rfl, SqL.of h3, rfl, ?_⟩
    refine ⟨_, rfl, a, _, v, rfl, er', fC.xc, fC.no, len_ok (by show 2 ≤ 1000; decide), fun p np => ?_⟩
    exact fin _ p (ss.trans (same_new np)) upd_same
end
end Bk
end
section
--@@ genb
set_option Elab.async false
set_option linter.all false
set_option maxRecDepth 100000
set_option maxHeartbeats 4000000
namespace Bk
open PySem PySem.Spec PyProof.Rows L2 Tg Dw En
/-! ### what is shown -/
theorem join_show {m : Nat} {ts : List Str} (h : ∀ t ∈ ts, t.length ≤ m) : (Str.join ", " ts).length ≤ ts.length * (m + 2) := by
  refine Nat.le_trans (StrLaws.join_length_le ", " ts) ?_
  have e : (Str.ofString ", ").length = 2 := by decide
  rw [e, Nat.mul_add]
  have : ∀ ws : List Str, (∀ w ∈ ws, w.length ≤ m) → (ws.map (·.length)).sum ≤ ws.length * m := by
    intro ws
    induction ws with
    | nil => intro _; simp
    | cons a r ih =>
      intro h
      rw [List.map_cons, List.sum_cons, List.length_cons, Nat.succ_mul]
      have := ih fun w hw => h w (List.mem_cons_of_mem _ hw)
      have := h a List.mem_cons_self
      omega
  have := this ts h
  omega
theorem show_strs {ws : List Str} (h : ∀ x ∈ ws, isNmS x = true) (few : ws.length ≤ 30) : (PyData.tuple (ws.map .str)).showable = true ∧ (PyData.tuple (ws.map .str)).shown.length ≤ 3000 ∧ (PyData.tuple (ws.map .str)).depth ≤ 1 := by
  refine ⟨?_, ?_, ?_⟩
  · simp only [PyData.showable]
    have : ∀ ws : List Str, PyData.showableAll (ws.map .str) = true := by
      intro ws
      induction ws with
      | nil => rfl
      | cons a r ih => simp only [List.map_cons, PyData.showableAll, PyData.showable, ih, Bool.and_self]
    exact this ws
  · rw [PyData.shown_tuple, strLen_append, strLen_append, PyData.shownAll_strs]
    have hj := join_show (m := 82) (ts := ws.map reprText) fun t ht => by
      obtain ⟨x, hx, rfl⟩ := List.mem_map.mp ht
      have hs := nm_strOk (h x hx)
      have := StrLaws.reprText_len x (fun c hc => by
        unfold PyData.strOk at hs
        rw [← Array.all_toList, List.all_eq_true] at hs
        have := of_decide_eq_true (hs c hc)
        omega)
      have := nm_len (h x hx)
      omega
    rw [List.length_map] at hj
    have h6 : (Str.ofString (if (ws.map PyData.str).length == 1 then ",)" else ")")).length ≤ 2 := by split <;> decide
    have : ws.length * (82 + 2) ≤ 30 * 84 := Nat.mul_le_mul_right _ few
    show 1 + _ + _ ≤ _
    omega
  · simp only [PyData.depth, depth_strs]
    decide
theorem show_pair {wd : Str} {d : PyData} {n : Nat} (hw : (reprText wd).length ≤ 20) (hs : d.showable = true) (hl : d.shown.length ≤ n) (hd : d.depth ≤ 3) : (PyData.tuple [.str wd, d]).showable = true ∧ (PyData.tuple [.str wd, d]).shown.length ≤ n + 40 ∧ (PyData.tuple [.str wd, d]).depth ≤ 4 := by
  refine ⟨?_, ?_, ?_⟩
  · simp only [PyData.showable, PyData.showableAll, hs, Bool.and_self]
  · rw [PyData.shown_tuple, strLen_append, strLen_append, PyData.shownAll_cons, PyData.shownAll_cons, PyData.shownAll_nil, PyData.shown_str]
    have e : (Str.ofString ", ").length = 2 := by decide
    have e1 : (Str.ofString (if ([PyData.str wd, d].length == 1) = true then ",)" else ")")).length = 1 := rfl
    rw [e1]
    simp only [Str.join, strLen_append]
    rw [e]
    show 1 + _ + 1 ≤ _
    omega
  · simp only [PyData.depth, PyData.depthAll]
    omega
theorem smalls : ((List.range 400).all fun i => (PyData.int (i : Nat)).showable && decide ((PyData.int (i : Nat)).shown.length ≤ 40)) = true := by decide +kernel
theorem show_int {i : Int} (h0 : 0 ≤ i) (h1 : i < 400) : (PyData.int i).showable = true ∧ (PyData.int i).shown.length ≤ 40 := by
  obtain ⟨n, rfl⟩ := Int.eq_ofNat_of_zero_le h0
  have := List.all_eq_true.mp smalls n (List.mem_range.mpr (by omega))
  rw [Bool.and_eq_true, decide_eq_true_eq] at this
  exact this
/-! ### numbers of lines -/
theorem bad_bound {α : Type} {p : α → Bool} : ∀ {l : List α} {n m : Int}, firstBad p n l = some m → n ≤ m ∧ m ≤ n + l.length
  | [], n, m, h => by cases h
  | a :: l, n, m, h => by
    rw [firstBad] at h
    split at h
    · have := bad_bound h
      rw [List.length_cons]
      omega
    · cases h
      rw [List.length_cons]
      omega
theorem named_bound {fs : Forms} {n m : Int} {f : Form} (g : gForm f) (h : named1 fs n f = some m) : n ≤ m ∧ m ≤ n + 7 := by
  cases f with
  | list k lo hi =>
    simp only [named1] at h
    split at h
    · cases h
    · cases h; omega
  | either ms =>
    simp only [named1] at h
    split at h
    · cases h
    · cases h; omega
  | record op rows =>
    have := bad_bound (show firstBad _ (n + 1) rows = some m from h)
    have := g.2.1
    omega
  | tagged fd rows =>
    have := bad_bound (show firstBad _ (n + 1) rows = some m from h)
    have := g.2.2.1
    omega
  | _ => cases h
theorem rows_bound {fs : Forms} (g : GoodL fs) : ∀ r ∈ rowsOf 1 fs, gForm r.2.1 ∧ 1 ≤ r.2.2 ∧ r.2.2 ≤ 210 := by
  intro r hr
  have ho := kinds_ok (page_ok g).2.1 (rows := rowsOf 1 fs) (by rw [split_page g]; exact kinds_page g)
  obtain ⟨_, _, b1, b2⟩ := ho.1.ok r hr
  rw [split_page g] at b2
  have l1 := (lines_few g.gf).1
  have l3 := g.few
  refine ⟨?_, b1, by omega⟩
  have h1 : (r.1, r.2.1) ∈ formsOf (rowsOf 1 fs) := List.mem_map.mpr ⟨r, hr, rfl⟩
  rw [forms_rows] at h1
  exact g.gf _ h1
theorem namedGo_bound {fs : Forms} : ∀ {rows : Rows} {m : Int}, (∀ r ∈ rows, gForm r.2.1 ∧ 1 ≤ r.2.2 ∧ r.2.2 ≤ 210) → namedGo fs rows = some m → 0 ≤ m ∧ m < 400
  | [], _, _, h => by cases h
  | r :: rs, m, hb, h => by
    rw [namedGo] at h
    obtain ⟨g, b1, b2⟩ := hb r List.mem_cons_self
    split at h
    · rename_i m' hm
      cases h
      have := named_bound g hm
      omega
    · exact namedGo_bound (fun q hq => hb q (List.mem_cons_of_mem _ hq)) h
theorem ringGo_bound {fs : Forms} : ∀ {rows : Rows} {m : Int}, (∀ r ∈ rows, gForm r.2.1 ∧ 1 ≤ r.2.2 ∧ r.2.2 ≤ 210) → ringGo fs rows = some m → 0 ≤ m ∧ m < 400
  | [], _, _, h => by cases h
  | r :: rs, m, hb, h => by
    rw [ringGo] at h
    obtain ⟨g, b1, b2⟩ := hb r List.mem_cons_self
    split at h
    · cases h
      omega
    · exact ringGo_bound (fun q hq => hb q (List.mem_cons_of_mem _ hq)) h
end Bk
end
section
--@@ genb
set_option Elab.async false
set_option linter.all false
set_option maxRecDepth 100000
set_option maxHeartbeats 8000000
set_option pp.maxSteps 3000
set_option synthInstance.maxHeartbeats 8000000
set_option synthInstance.maxSize 100000
namespace Bk
open PySem PySem.Spec PyProof.Rows L2 Tg LamX Dw En
local macro_rules | `(tactic| walk_at "d") => `(tactic| simp (maxSteps := 4000000) only [RTupleD, DLamB, DVar, DCon, DLock, DLockV, DCons, DNil, DOp, DOpN, DUn, DTup, DLst, DCB, DCBN, DMt, DMtN, isB, DB, DNot, DAnd, DOr, DAndV, DOrV, DNotV, DIf, DChain, DNext, DSeq, DIfS, DRet, DDrop, DSet, DSetN, GName, GNil, GCons, GTup, DAsgG, DPar, isL, isT, isS, isI, IList, ITup, IStr, IRng1, IRng2, DFor, DLc, DYes, RInt, RIntC, RStr, RCatS, eqC, REq, RNe, isNone, RIsN, RNotN, RInS, RIx, RSlS, ONone, OSome, DSl, DSlN, on1, on2, RLen, RIntOf, RIntS, RStrI, RAbs, RMin2, RMax2, RAll, RAny, NList, RTuple, RReprD, MStarts, MFind, MJoin, tyB, DIs, DIs3, DApp, DCall, DCallX, DRaise, startD, RAdd, RLe, RInX, NCat, RMulX, NSlL, DFzS, DAug, DCallP, startP, wipeD, IItems, DDGet, DDIn, NSortedD, NListD, MDict, DCBM, DParND, DParNN, DPar3N, DPar3, GPut, DPeek, DNe0, DPop, DLenO, DPar3M, DRepl, DDisp1, DNone1, DLam, kD, DMatch, DArms, NSplit, NSortedS, DStar, DDc, flD, inF, eqF, DPeek1, restS, pickS, DLenSet, DSortSet, RDeq, RDne, RDin, DLc2, IEnAt, IKeys, IEnum, IZip, MStarts1, DStarC, DStarS, isStr, ISeq, RCatT, RSlT, RSum, MJoin2, NRep, DParDN, DExt, DListItems, GLst, DPar3DNN, DPutNew, List.length_cons, List.length_nil, List.map_cons, List.map_nil, List.replicate_succ, List.replicate_zero, List.cons_append, List.nil_append, List.getElem?_cons_zero, List.getElem?_cons_succ, List.set_cons_zero, List.set_cons_succ, Nat.reduceAdd, Nat.reduceSub, Nat.zero_add, Bool.not_true, Bool.not_false, Bool.false_eq_true, if_true, if_false, reduceIte, reduceCtorEq, beq_self_eq_true, Bool.true_or, Bool.or_true, Bool.false_or, Bool.or_false, String.reduceBEq, Option.some.injEq, false_and, and_false, exists_const, true_and, and_true, PyData.str.injEq, exists_eq', exists_eq_left', Nat.reduceLeDiff, DV.l.injEq, DV.m.injEq, DV.pot.injEq, List.all_cons, List.all_nil, List.any_cons, List.any_nil, Bool.and_self, Bool.and_true, Bool.true_and, List.zipWith_cons_cons, List.zipWith_nil_right])
def tabL (P1 : Addr) : List (Addr × Str) := [(P1, ("_law_right" : Str) ++ ".<locals>." ++ "<lambda>")]
theorem tab_one1 {P1 : Addr} : ∀ p ∈ tabL P1, p.1 = P1 → p.2 = ("_law_right" : Str) ++ ".<locals>." ++ "<lambda>" := by
  intro p hp e
  simp only [tabL, List.mem_cons, List.not_mem_nil, or_false] at hp
  subst hp
  rfl
abbrev nR : List Str := ["_law_pot", "_law_lore_here", "_law_turn", "_law_page_here", "_law_due_here", "_law_heard_here"]
section
variable {P : Program} {w : World} {K : PySem.W.Frag} {mg : Str → Option Value} {base : Heap}
abbrev wsT (T : Tx P K mg) : List (Addr × Str) := [(T.C_BadBook, Str.ofString "BadBook"), (T.C_Ring, Str.ofString "Ring"), (T.C_Unnamed, Str.ofString "Unnamed")]
/-- the book of the text at i is made, its names told; what is heard -/
def heardD (z : Str) : PyData := match told z with
  | .bad n => .tuple [.str "BadBook", .int n]
  | .unnamed n => .tuple [.str "Unnamed", .int n]
  | .ring n => .tuple [.str "Ring", .int n]
  | .ok rows => .tuple [.str "fine", .tuple ((formsOf rows).map fun r => .str r.1)]
theorem heard_due {fs : Forms} (g : GoodL fs) : (∃ wd m, heardD (pageOf fs) = .tuple [.str wd, .int m] ∧ dueD fs = .tuple [.str wd, .int m] ∧ (reprText wd).length ≤ 20 ∧ 0 ≤ m ∧ m < 400) ∨ (heardD (pageOf fs) = .tuple [.str (Str.ofString "fine"), .tuple ((fs.map (·.1)).map .str)] ∧ dueD fs = .none) := by
  have hb := rows_bound g
  unfold heardD dueD
  rw [told_page g]
  cases hn : namedGo fs (rowsOf 1 fs) with
  | some m =>
    obtain ⟨b1, b2⟩ := namedGo_bound hb hn
    exact .inl ⟨Str.ofString "Unnamed", m, rfl, rfl, by decide +kernel, b1, b2⟩
  | none =>
    dsimp only
    cases hr : ringGo fs (rowsOf 1 fs) with
    | some m =>
      obtain ⟨b1, b2⟩ := ringGo_bound hb hr
      exact .inl ⟨Str.ofString "Ring", m, rfl, rfl, by decide +kernel, b1, b2⟩
    | none =>
      dsimp only
      rw [forms_rows, List.map_map]
      exact .inr ⟨rfl, rfl⟩
def DLamB (i : Nat) : TD := fun ρ K => match ρ[i]? with
  | some (some (.d (.str z))) => TextOk z ∧ K (heardD z) ρ
  | _ => False
instance iLamB {T : Tx P K mg} {H0 : Hp} {p : Addr} {Ts : List (Addr × Str)} {i : Nat} : Ref (potT H0 p Ts) (tLam Ts (TH (wsT T)) fun E => tProp T.C_Book (spNames T) [] E0 (tMake T.C_Book (spInit T) [] E (tCons (tVar i) tNil))) (DLamB i) := ⟨fun {σ H Q ρ Kd} I h k => by
  unfold DLamB at h
  split at h
  · rename_i z e
    obtain ⟨tz, h⟩ := h
    obtain ⟨v0, hv0, r0⟩ := I.at_ i _ e
    have r0 : Rp H (.str z) v0 := r0
    cases rp_str r0
    refine ⟨I.j, fun H1 eN T1 H2 s2 => ?_⟩
    have I2 := (I.extN eN T1).same s2
    have k2 : Kp H H2 := (ExtN.kp eN).trans (Kp.same s2)
    refine ⟨fun v H' => ∃ d, heardD z = .tuple [.str "fine", d] ∧ Same H2 H' ∧ Rp H' d v,
      fun cls dx H' => ∃ C wd n dd, (C, wd) ∈ wsT T ∧ heardD z = .tuple [.str wd, .int n] ∧ cls = .ref C ∧ dx = some dd ∧ H' dd = some (.xd [("value", .int n)]) ∧ Same H2 H', ?_, ?_, ?_⟩
    · refine ⟨_, hv0, fun x dx nx ndx ne => ?_⟩
      have s3 : ∀ H', (∀ b o, b ≠ x → upd (upd H2 dx (.own x)) x (.ins T.C_Book dx []) b = some o → H' b = some o) → Same H2 H' := fun H' hk b o e => by
        have n1 := ne_of_none e nx
        refine hk b o n1 ?_
        rw [upd_ne n1, upd_ne (ne_of_none e ndx)]
        exact e
      refine ⟨x, dx, z, rfl, upd_same, tz, ?_⟩
      have e0 : heardD z = heardD z := rfl
      unfold heardD at e0 ⊢
      cases ht : told z with
      | bad n => exact fun dd H' s hd => ⟨T.C_BadBook, _, n, dd, by simp, rfl, rfl, rfl, hd, s3 H' fun b o _ e => s b o e⟩
      | unnamed n => exact fun dd H' s hd => ⟨T.C_Unnamed, _, n, dd, by simp, rfl, rfl, rfl, hd, s3 H' fun b o _ e => s b o e⟩
      | ring n => exact fun dd H' s hd => ⟨T.C_Ring, _, n, dd, by simp, rfl, rfl, rfl, hd, s3 H' fun b o _ e => s b o e⟩
      | ok rows => exact fun H' vf vn hk ha rf rn => ⟨rfl, x, dx, _, rfl, ha, x, dx, z, vf, vn, rfl, ha, _, rfl, s3 H' hk, rn⟩
    · rintro v H' ⟨d, e1, s, r⟩ a na
      rw [e1] at h
      exact k _ _ _ _ h ((k2.trans (Kp.same s)).trans (Kp.new na)) ((I2.same s).same (same_new na)) (Rp.tup upd_same (RpL.cons Rp.str (RpL.cons (r.same (same_new na)) RpL.nil)))
    · rintro cls dx H' ⟨C, wd, n, dd, hw, e1, rfl, rfl, hd, s⟩
      refine ⟨C, wd, dd, .int n, hw, rfl, rfl, hd, fun H'' a s4 ha => ?_⟩
      rw [e1] at h
      exact k _ _ _ _ h ((k2.trans (Kp.same s)).trans (Kp.same s4)) ((I2.same s).same s4) (Rp.tup ha (RpL.cons Rp.str (RpL.cons Rp.int RpL.nil)))
  · exact h.elim⟩
def spR (P1 : Addr) : Sp := fun vs H Q _ => ∃ (p : Addr) (c : Int), vs = [.ref p] ∧ PotAt H p c ∧ c < 700000 ∧ Tabs (tabL P1) H ∧
  ∀ (H' : Hp) (c' : Int), c' ≤ c + 700 → (∀ b o, b ≠ p → (∀ ps, o ≠ .tbl ps) → H b = some o → H' b = some o) → PotAt H' p c' → Tabs (tabL P1) H' → Q (.bl true) H'
theorem ok_right (T : Tx P K mg) {P1 c1 : Addr} (TB : TabB base mg c1 P1) (FC : FunC K "_law_right" "_law_right" s__law_right T.a__law_right T.fd__law_right c1) :
    FnG P w K mg base CX0 30 T.a__law_right T.fd__law_right ["_law_pot"] (spR P1) := by
  have G__law_take := okP_take (w := w) (base := base) T
  have G__law_lore := ok_lore (w := w) (base := base) T
  have G__law_bent_lore := ok_bent (w := w) (base := base) T
  have G__law_page := ok_page (w := w) (base := base) T
  have G__law_due := ok_due (w := w) (base := base) T
  have G_init := ok_init (w := w) (base := base) T
  have G_names := ok_bnames (w := w) (base := base) T
  obtain ⟨och, odh, kVh, doch, pmh, anh, cdvh, cth, oslh, efd, lkh, hch⟩ := T.F__law_heard.ex
  have bh := T.b__law_heard
  rw [efd] at lkh bh
  refine funGC FC sc__law_right (fun vs H Q E h => ?_) (fun A fr s H vs Q E hgd hr h => ?_)
  · obtain ⟨p, c, rfl, _⟩ := h
    rfl
  obtain ⟨p, c, rfl, hp, hc, tb, k⟩ := h
  obtain ⟨U, hU, hU2⟩ := room_units hr
  refine ⟨_, (pss_cons (ps_set (i := 1) sc__law_right.nd rfl (Or.inl rfl) (pe_call G__law_lore (hr.mono (by first | decide | omega)) (by rfl) T.m__law_lore T.F__law_lore.kp T.b__law_lore .nil pass0 (pa_cons (pv 0) pa_nil)))
      (pss_cons (ps_for PassesOwn.never rfl (pi_range1 (by rfl) T.n_range (pa_cons (pe_call G__law_take (hr.mono (by first | decide | omega)) (by rfl) T.m__law_take T.F__law_take.kp T.b__law_take .nil pass0 (pa_cons (pv 0) (pa_cons pe_int pa_nil))) pa_nil)) (pg_name (i := 2) sc__law_right.nd rfl (Or.inl rfl)) (pss_one (ps_set (i := 1) sc__law_right.nd rfl (Or.inl rfl) (pe_call G__law_bent_lore (hr.mono (by first | decide | omega)) (by rfl) T.m__law_bent_lore T.F__law_bent_lore.kp T.b__law_bent_lore .nil pass0 (pa_cons (pv 0) (pa_cons (pv 1) pa_nil))))))
      (pss_cons (ps_asg (pe_tup (pa_cons (pe_call G__law_page (hr.mono (by first | decide | omega)) (by rfl) T.m__law_page T.F__law_page.kp T.b__law_page .nil pass0 (pa_cons (pv 1) pa_nil)) (pa_cons (pe_call G__law_due (hr.mono (by first | decide | omega)) (by rfl) T.m__law_due T.F__law_due.kp T.b__law_due .nil pass0 (pa_cons (pv 1) pa_nil)) pa_nil))) (pg_tup (n := 2) rfl (pgs_cons (pg_name (i := 3) sc__law_right.nd rfl (Or.inr rfl)) (pgs_cons (pg_name (i := 4) sc__law_right.nd rfl (Or.inl rfl)) pgs_nil))))
      (pss_cons (ps_set (i := 5) sc__law_right.nd rfl (Or.inl rfl) (pe_lamcall (T := tabL P1) (TT := TH (wsT T)) (k := 11) (by rfl) T.m__law_heard T.F__law_heard.kp lkh hch bh sc__law_heard rfl (Or.inl rfl) (heard_gives (X := (cxOf CX0 P w K mg base nR "_law_right" (defScope s__law_right) T.a__law_right (.ref c1) A fr s H E).nox) T) TB rfl (.head _) (tab_one1) (hr.mono (by decide)) (lamS_by (sc := defScope s__law_right) (by decide +kernel)) rfl (fun _ _ _ _ _ => rfl) (fun A outer s H E f c' hr => pe_prop (pe_make T.mk_Book G_init (hr.mono (by decide)) (by rfl) T.m_Book T.b_Book___init__ .nil (passes_call (takes_of rfl rfl rfl rfl) fun _ _ _ _ h => h) (pa_cons (pv 3) pa_nil)) T.cl_Book T.P_Book_names G_names (hr.mono (by decide)) T.b_Book_names .nil pass0 rfl)))
      (pss_one (ps_ret (pe_cmpR dEq (pe_callB (dRepr hgd hU) (by rfl) T.n_repr PyProof.Rows.Boot.«repr» (pa_cons (pv 5) pa_nil)) (pe_callB (dRepr hgd hU) (by rfl) T.n_repr PyProof.Rows.Boot.«repr» (pa_cons (pe_ifExp (pt_cmpR dIsN (pv 4) pe_non (nomark _)) (pe_tup (pa_cons pe_str (pa_cons (pe_callTy (dTupleD rfl) (by rfl) T.n_tuple PyProof.Rows.Boot.«tuple» (pa_cons (pv 1) pa_nil)) pa_nil))) (pv 4)) pa_nil)) (nomark _)))))))), ?_⟩
  refine okR (H0 := H) (p := p) (Ts := tabL P1) (N := nR) (c := c) (Kk := fun d c' => d = .bool true ∧ c' ≤ c + 700) inferInstance (by decide) hp tb ?_ (fun d c' w' H' hk hx hp' ht' r => ?_)
  · rw [show startP nR.length p c [] = [some (.pot p c), none, none, none, none, none] from rfl]
    generalize hUU : DSeq (DAsgG _ _) _ = UU
    simp (maxSteps := 4000000) only [RTupleD, DLamB, DVar, DCon, DLock, DLockV, DCons, DNil, DOp, DOpN, DUn, DTup, DLst, DCB, DCBN, DMt, DMtN, isB, DB, DNot, DAnd, DOr, DAndV, DOrV, DNotV, DIf, DChain, DNext, DSeq, DIfS, DRet, DDrop, DSet, DSetN, GName, GNil, GCons, GTup, DAsgG, DPar, isL, isT, isS, isI, IList, ITup, IStr, IRng1, IRng2, DFor, DLc, DYes, RInt, RIntC, RStr, RCatS, eqC, REq, RNe, isNone, RIsN, RNotN, RInS, RIx, RSlS, ONone, OSome, DSl, DSlN, on1, on2, RLen, RIntOf, RIntS, RStrI, RAbs, RMin2, RMax2, RAll, RAny, NList, RTuple, RReprD, MStarts, MFind, MJoin, tyB, DIs, DIs3, DApp, DCall, DCallX, DRaise, startD, RAdd, RLe, RInX, NCat, RMulX, NSlL, DFzS, DAug, DCallP, startP, wipeD, IItems, DDGet, DDIn, NSortedD, NListD, MDict, DCBM, DParND, DParNN, DPar3N, DPar3, GPut, DPeek, DNe0, DPop, DLenO, DPar3M, DRepl, DDisp1, DNone1, DLam, kD, DMatch, DArms, NSplit, NSortedS, DStar, DDc, flD, inF, eqF, DPeek1, restS, pickS, DLenSet, DSortSet, RDeq, RDne, RDin, DLc2, IEnAt, IKeys, IEnum, IZip, MStarts1, DStarC, DStarS, isStr, ISeq, RCatT, RSlT, RSum, MJoin2, NRep, DParDN, DExt, DListItems, GLst, DPar3DNN, DPutNew, List.length_cons, List.length_nil, List.map_cons, List.map_nil, List.replicate_succ, List.replicate_zero, List.cons_append, List.nil_append, List.getElem?_cons_zero, List.getElem?_cons_succ, List.set_cons_zero, List.set_cons_succ, Nat.reduceAdd, Nat.reduceSub, Nat.zero_add, Bool.not_true, Bool.not_false, Bool.false_eq_true, if_true, if_false, reduceIte, reduceCtorEq, beq_self_eq_true, Bool.true_or, Bool.or_true, Bool.false_or, Bool.or_false, String.reduceBEq, Option.some.injEq, false_and, and_false, exists_const, true_and, and_true, PyData.str.injEq, exists_eq', exists_eq_left', Nat.reduceLeDiff, DV.l.injEq, DV.m.injEq, DV.pot.injEq, List.all_cons, List.all_nil, List.any_cons, List.any_nil, Bool.and_self, Bool.and_true, Bool.true_and, List.zipWith_cons_cons, List.zipWith_nil_right]
    refine ⟨⟨_, _, rfl, rfl⟩, rfl, by omega, fun fs c1 g big hc1 => ?_⟩
    refine ⟨⟨_, _, rfl, rfl⟩, 4, rfl, by omega, by decide, by decide, fun r hr4 => ?_⟩
    dsimp only
    refine ⟨⟨by omega, by omega⟩, fun i ρ => ∃ (fs : Forms) (c' : Int) (x2 : Option DV), ρ = [some (.pot p c'), some (.d (encD fs)), x2, none, none, none] ∧ GoodL fs ∧ Big fs ∧ c' ≤ c + 601 + 10 * i, ⟨fs, _, none, rfl, g, big, by omega⟩, ?_, ?_⟩
    · rintro i x ρ hx ⟨fs, c', x2, rfl, g, big, hc'⟩
      have hi : i < (rngD 0 (r : Int).toNat).length := (List.getElem?_eq_some_iff.mp hx).1
      have hi3 : i < 4 := by simp [rngD] at hi; omega
      simp (maxSteps := 4000000) only [RTupleD, DLamB, DVar, DCon, DLock, DLockV, DCons, DNil, DOp, DOpN, DUn, DTup, DLst, DCB, DCBN, DMt, DMtN, isB, DB, DNot, DAnd, DOr, DAndV, DOrV, DNotV, DIf, DChain, DNext, DSeq, DIfS, DRet, DDrop, DSet, DSetN, GName, GNil, GCons, GTup, DAsgG, DPar, isL, isT, isS, isI, IList, ITup, IStr, IRng1, IRng2, DFor, DLc, DYes, RInt, RIntC, RStr, RCatS, eqC, REq, RNe, isNone, RIsN, RNotN, RInS, RIx, RSlS, ONone, OSome, DSl, DSlN, on1, on2, RLen, RIntOf, RIntS, RStrI, RAbs, RMin2, RMax2, RAll, RAny, NList, RTuple, RReprD, MStarts, MFind, MJoin, tyB, DIs, DIs3, DApp, DCall, DCallX, DRaise, startD, RAdd, RLe, RInX, NCat, RMulX, NSlL, DFzS, DAug, DCallP, startP, wipeD, IItems, DDGet, DDIn, NSortedD, NListD, MDict, DCBM, DParND, DParNN, DPar3N, DPar3, GPut, DPeek, DNe0, DPop, DLenO, DPar3M, DRepl, DDisp1, DNone1, DLam, kD, DMatch, DArms, NSplit, NSortedS, DStar, DDc, flD, inF, eqF, DPeek1, restS, pickS, DLenSet, DSortSet, RDeq, RDne, RDin, DLc2, IEnAt, IKeys, IEnum, IZip, MStarts1, DStarC, DStarS, isStr, ISeq, RCatT, RSlT, RSum, MJoin2, NRep, DParDN, DExt, DListItems, GLst, DPar3DNN, DPutNew, List.length_cons, List.length_nil, List.map_cons, List.map_nil, List.replicate_succ, List.replicate_zero, List.cons_append, List.nil_append, List.getElem?_cons_zero, List.getElem?_cons_succ, List.set_cons_zero, List.set_cons_succ, Nat.reduceAdd, Nat.reduceSub, Nat.zero_add, Bool.not_true, Bool.not_false, Bool.false_eq_true, if_true, if_false, reduceIte, reduceCtorEq, beq_self_eq_true, Bool.true_or, Bool.or_true, Bool.false_or, Bool.or_false, String.reduceBEq, Option.some.injEq, false_and, and_false, exists_const, true_and, and_true, PyData.str.injEq, exists_eq', exists_eq_left', Nat.reduceLeDiff, DV.l.injEq, DV.m.injEq, DV.pot.injEq, List.all_cons, List.all_nil, List.any_cons, List.any_nil, Bool.and_self, Bool.and_true, Bool.true_and, List.zipWith_cons_cons, List.zipWith_nil_right]
      refine ⟨⟨_, _, rfl, rfl⟩, fs, rfl, g, big, by omega, fun fs' c2 g' big' hc2 => ?_⟩
      exact ⟨fs', c2, _, rfl, g', big', by omega⟩
    · rintro ρ ⟨fs, c', x2, rfl, g, big, hc'⟩
      have hlen : (rngD 0 (r : Int).toNat).length ≤ 3 := by simp [rngD]; omega
      rw [← hUU]
      simp (maxSteps := 4000000) only [RTupleD, DLamB, DVar, DCon, DLock, DLockV, DCons, DNil, DOp, DOpN, DUn, DTup, DLst, DCB, DCBN, DMt, DMtN, isB, DB, DNot, DAnd, DOr, DAndV, DOrV, DNotV, DIf, DChain, DNext, DSeq, DIfS, DRet, DDrop, DSet, DSetN, GName, GNil, GCons, GTup, DAsgG, DPar, isL, isT, isS, isI, IList, ITup, IStr, IRng1, IRng2, DFor, DLc, DYes, RInt, RIntC, RStr, RCatS, eqC, REq, RNe, isNone, RIsN, RNotN, RInS, RIx, RSlS, ONone, OSome, DSl, DSlN, on1, on2, RLen, RIntOf, RIntS, RStrI, RAbs, RMin2, RMax2, RAll, RAny, NList, RTuple, RReprD, MStarts, MFind, MJoin, tyB, DIs, DIs3, DApp, DCall, DCallX, DRaise, startD, RAdd, RLe, RInX, NCat, RMulX, NSlL, DFzS, DAug, DCallP, startP, wipeD, IItems, DDGet, DDIn, NSortedD, NListD, MDict, DCBM, DParND, DParNN, DPar3N, DPar3, GPut, DPeek, DNe0, DPop, DLenO, DPar3M, DRepl, DDisp1, DNone1, DLam, kD, DMatch, DArms, NSplit, NSortedS, DStar, DDc, flD, inF, eqF, DPeek1, restS, pickS, DLenSet, DSortSet, RDeq, RDne, RDin, DLc2, IEnAt, IKeys, IEnum, IZip, MStarts1, DStarC, DStarS, isStr, ISeq, RCatT, RSlT, RSum, MJoin2, NRep, DParDN, DExt, DListItems, GLst, DPar3DNN, DPutNew, List.length_cons, List.length_nil, List.map_cons, List.map_nil, List.replicate_succ, List.replicate_zero, List.cons_append, List.nil_append, List.getElem?_cons_zero, List.getElem?_cons_succ, List.set_cons_zero, List.set_cons_succ, Nat.reduceAdd, Nat.reduceSub, Nat.zero_add, Bool.not_true, Bool.not_false, Bool.false_eq_true, if_true, if_false, reduceIte, reduceCtorEq, beq_self_eq_true, Bool.true_or, Bool.or_true, Bool.false_or, Bool.or_false, String.reduceBEq, Option.some.injEq, false_and, and_false, exists_const, true_and, and_true, PyData.str.injEq, exists_eq', exists_eq_left', Nat.reduceLeDiff, DV.l.injEq, DV.m.injEq, DV.pot.injEq, List.all_cons, List.all_nil, List.any_cons, List.any_nil, Bool.and_self, Bool.and_true, Bool.true_and, List.zipWith_cons_cons, List.zipWith_nil_right]
      refine ⟨fs, rfl, g, fs, rfl, g, ?_⟩
      dsimp only
      refine ⟨page_ok g, ?_⟩
      have nm30 : ∀ x ∈ fs.map (·.1), isNmS x = true := fun x hx => by
        obtain ⟨r, hr, rfl⟩ := List.mem_map.mp hx
        exact g.nm r hr
      have err : ∀ (wd : Str) (m : Int), (reprText wd).length ≤ 20 → 0 ≤ m → m < 400 → (PyData.tuple [.str wd, .int m]).showable = true ∧ (PyData.tuple [.str wd, .int m]).shown.length ≤ 16777216 ∧ U + (PyData.tuple [.str wd, .int m]).depth + 2 < cLine := fun wd m h1 h2 h3 => by
        obtain ⟨s1, s2⟩ := show_int h2 h3
        obtain ⟨p1, p2, p3⟩ := show_pair h1 s1 s2 (by simp [PyData.depth])
        exact ⟨p1, by omega, by omega⟩
      have both := heard_due g
      generalize heardD (pageOf fs) = hd at both ⊢
      generalize dueD fs = du at both ⊢
      rcases both with ⟨wd, m, rfl, rfl, b0, b1, b2⟩ | ⟨rfl, rfl⟩
      · obtain ⟨p1, p2, p3⟩ := err wd m b0 b1 b2
        refine ⟨p1, p2, p3, ?_⟩
        dsimp only
        rw [if_neg Bool.false_ne_true]
        exact ⟨p1, p2, p3, congrArg PyData.bool (decide_eq_true rfl), by omega⟩
      · obtain ⟨s1, s2, s3⟩ := show_strs nm30 (by rw [List.length_map]; exact g.few)
        obtain ⟨p1, p2, p3⟩ := show_pair (wd := Str.ofString "fine") (by decide +kernel) s1 s2 (by omega)
        refine ⟨p1, by omega, by omega, ?_⟩
        rw [if_pos rfl]
        refine ⟨encP fs, rfl, ?_⟩
        dsimp only
        rw [show ((encP fs).map fun p => PyData.str p.1) = (fs.map (·.1)).map .str by unfold encP; rw [List.map_map, List.map_map]; rfl]
        exact ⟨p1, by omega, by omega, congrArg PyData.bool (decide_eq_true rfl), by omega⟩
  · obtain ⟨rfl, hle⟩ := hk
    cases rp_bl r
    exact k H' c' hle hx hp' ht'
end
end Bk
end
section
--@@ genb
set_option Elab.async false
set_option linter.all false
set_option maxRecDepth 100000
set_option maxHeartbeats 8000000
set_option pp.maxSteps 1200
namespace Bk
open PySem PySem.Spec PyProof.Rows L2 Tg LamX Dw
local macro_rules | `(tactic| walk_at "c") => `(tactic| first | assumption | trivial | omega | (constructor <;> omega) | decide | exact len_ok (Nat.le_of_ble_eq_true rfl))
local macro_rules | `(tactic| walk_at "sq") => `(tactic| first | exact SqL.of (by assumption) | exact SqL.of upd_same | assumption | exact SqT.of (by assumption) | exact SqT.of upd_same | exact .inl (SqL.of (by assumption)) | exact .inr (SqT.of (by assumption)))
local macro_rules | `(tactic| walk_at "r1") => `(tactic| first
  | refine ⟨_, rfl, ?_⟩
  | refine ⟨_, _, rfl, rfl, ?_⟩
  | refine .inl ⟨_, rfl, ?_⟩
  | refine .inr ⟨_, rfl, ?_⟩
  | (apply Exists.intro; apply Exists.intro; apply Exists.intro; apply Exists.intro; refine And.intro rfl (And.intro rfl (And.intro ?sq ?_)); (case sq => walk_at "sq"); refine And.intro rfl ?_)
  | (apply Exists.intro; apply Exists.intro; apply Exists.intro; apply Exists.intro; refine And.intro rfl (And.intro rfl (And.intro ?hp ?_)); (case hp => first | assumption | exact upd_same); refine And.intro rfl ?_)
  | (refine And.intro ?c ?_; (case c => walk_at "c")))
local macro_rules | `(tactic| walk_at "r") => `(tactic| repeat walk_at "r1")
def spLaw (K : PySem.W.Frag) (P1 : Addr) : Sp := fun vs H Q _ => ∃ (a : Addr) (ns : List Int), vs = [.ref a] ∧ SqL K H a (ns.map V.int) ∧ ns.length ≤ 63 ∧ Tabs (tabL P1) H ∧ ∀ H', Q (.bl true) H'
def cnt (m : Nat) : Int := if (if (m : Int) < 3 then (m : Int) else 3) > 1 then (if (m : Int) < 3 then (m : Int) else 3) else 1
theorem cnt_ok (m : Nat) : 1 ≤ cnt m ∧ cnt m ≤ 3 := by
  unfold cnt
  by_cases h : (m : Int) < 3
  · rw [if_pos h]
    by_cases h2 : (m : Int) > 1
    · rw [if_pos h2]
      omega
    · rw [if_neg h2]
      omega
  · rw [if_neg h]
    decide
theorem cnt_lo (m : Nat) : -(2 ^ 62) ≤ cnt m := by
  have := cnt_ok m
  omega
theorem cnt_hi (m : Nat) : cnt m < 2 ^ 62 := by
  have := cnt_ok m
  omega
theorem trues : ∀ {xs : List V}, (∀ (i : Nat) v, xs[i]? = some v → v = .bl true) → xs = (List.replicate xs.length true).map V.bl
  | [], _ => rfl
  | x :: xs, h => by
    have h1 := h 0 x rfl
    have h2 := trues (xs := xs) fun i v z => h (i + 1) v (by simpa using z)
    subst h1
    rw [List.length_cons, List.replicate_succ, List.map_cons, ← h2]
theorem all_rep : ∀ n : Nat, (List.replicate n true).all id = true
  | 0 => rfl
  | n + 1 => by
    show (id true && (List.replicate n true).all id) = true
    rw [all_rep n]
    rfl
theorem sq_ext {K : PySem.W.Frag} {l : Addr} {H H' : Hp} {xs : List V} (b : ExtN H H') (h : SqL K H l xs) : SqL K H' l xs := by
  rcases h with (h | ⟨o, h⟩) | h
  · exact .inl (.inl (b _ _ h (fun _ z => nomatch z)))
  · exact .inl (.inr ⟨o, b _ _ h (fun _ z => nomatch z)⟩)
  · exact .inr h
theorem pot_ne {H : Hp} {p q : Addr} {c : Int} (h : PotAt H p c) (n : H q = none) : q ≠ p := by
  rintro rfl
  obtain ⟨x, y, z, e, r⟩ := h.ex
  rw [n] at e
  cases e
theorem pot_put {H : Hp} {p q : Addr} {c : Int} {o : HO} (h : PotAt H p c) (n : q ≠ p) : PotAt (upd H q o) p c := by
  obtain ⟨x, y, z, e, r⟩ := h.ex
  exact ⟨x, y, z, by rw [upd_ne (Ne.symm n)]; exact e, r⟩
/-- all but p and the tables stay -/
def ExtB (p : Addr) (H H' : Hp) : Prop := ∀ b o, b ≠ p → (∀ ps, o ≠ .tbl ps) → H b = some o → H' b = some o
theorem ExtB.trans {p : Addr} {H H1 H2 : Hp} (a : ExtB p H H1) (b : ExtB p H1 H2) : ExtB p H H2 := fun c o n t e => b c o n t (a c o n t e)
theorem ExtB.kp {p : Addr} {c : Int} {H H1 : Hp} (hp : PotAt H p c) (a : ExtB p H H1) : Kp H H1 := by
  obtain ⟨x, y, z, e, r⟩ := hp.ex
  exact ⟨fun a' o u q => a a' _ (ne_of q e (fun z => nomatch z)) (fun _ z => nomatch z) q, fun a' xs q => a a' _ (ne_of q e (fun z => nomatch z)) (fun _ z => nomatch z) q, fun a' C dx fs q => a a' _ (ne_of q e (fun z => nomatch z)) (fun _ z => nomatch z) q⟩
theorem extB_put {H1 H : Hp} {p D : Addr} {o : HO} (nD : H1 D = none) (s : ExtB p H1 H) : ExtB p H1 (upd H D o) := fun b u n t e => by
  rw [upd_ne (ne_of_none e nD)]
  exact s b u n t e
theorem tabs_put {T : List (Addr × Str)} {H : Hp} {D : Addr} {xs ys : List V} (t : Tabs T H) (h : H D = some (.lst ys)) : Tabs T (upd H D (.lst xs)) := by
  intro q hq
  obtain ⟨ps, h1, h2, h3⟩ := t q hq
  refine ⟨ps, by rw [upd_ne (ne_of h1 h (fun z => nomatch z))]; exact h1, h2, fun pos cv hc => ?_⟩
  obtain ⟨c', e1, e2⟩ := h3 pos cv hc
  exact ⟨c', e1, by rw [upd_ne (ne_of e2 h (fun z => by unfold CodeO at z; cases z))]; exact e2⟩
section
variable {P : Program} {w : World} {K : PySem.W.Frag} {mg : Str → Option Value} {base : Heap}
theorem ok_law (T : Tx P K mg) {P1 c1 : Addr} (TB : TabB base mg c1 P1) (FC : FunC K "_law_right" "_law_right" s__law_right T.a__law_right T.fd__law_right c1) :
    FnG P w K mg base CX0 32 T.a_law T.fd_law ["_law_script"] (spLaw K P1) := by
  have G__law_pot_of := ok_pot (w := w) (base := base) T
  have G__law_right := ok_right (w := w) (base := base) T TB FC
  refine funG T.F_law sc_law (fun vs H Q E h => ?_) (fun cdv A outer s H vs Q E hgd hr h => ?_)
  · obtain ⟨a, ns, rfl, _⟩ := h
    rfl
  obtain ⟨a, ns, rfl, ha, hz, tb, k⟩ := h
  refine ⟨_, (pss_cons (ps_for PassesOwn.never rfl (pi_range1 (by rfl) T.n_range (pa_cons (pe_callB (call_max2 rfl) (by rfl) T.n_max PyProof.Rows.Boot.«max» (pa_cons pe_int (pa_cons (pe_callB (call_min2 rfl) (by rfl) T.n_min PyProof.Rows.Boot.«min» (pa_cons pe_int (pa_cons (pe_callB call_len (by rfl) T.n_len PyProof.Rows.Boot.«len» (pa_cons (pv 0) pa_nil)) pa_nil))) pa_nil))) pa_nil)) (pg_name (i := 1) sc_law.nd rfl (Or.inl rfl)) (pss_cons (ps_set (i := 2) sc_law.nd rfl (Or.inr rfl) (pe_call G__law_pot_of (hr.mono (by first | decide | omega)) (by rfl) T.m__law_pot_of T.F__law_pot_of.kp T.b__law_pot_of .nil pass0 (pa_cons (pv 0) (pa_cons (pv 1) pa_nil))))
      (pss_one (ps_if (pt_not (pt_val (pe_callB (cr_all rfl) (by rfl) T.n_all PyProof.Rows.Boot.«all» (pa_cons (pe_lc (own := [("_law_turn", 3)]) (g := gName 3) (tt := tYes) (by rfl) sc_law.nd (pi_range1 (by rfl) T.n_range (pa_cons pe_int pa_nil)) (blkOk_by (own := [("_law_turn", 3)]) (N := ["_law_script", "_law_k", "_law_pot", "_law_turn"]) (sc := defScope s_law) (by decide +kernel)) (fun _ _ _ _ _ => (pg_name (i := 3) sc_law.nd rfl (Or.inl rfl))) (fun _ _ _ _ _ => pts_nil) (fun _ _ _ _ _ => (pe_callG G__law_right hgd (hr.mono (by first | decide | omega)) (by rfl) T.m__law_right T.F__law_right.kp T.b__law_right .nil pass0 (pa_cons (pv 2) pa_nil)))) pa_nil)))) (pss_one (ps_ret pe_bl)) pss_nil))))
      (pss_one (ps_ret pe_bl))), ?_⟩
  have hc := cnt_ok (ns.map V.int).length
  refine ⟨_, rfl, _, _, rfl, .inl ⟨_, ha, rfl⟩, _, _, rfl, _, _, rfl, _, rfl, cnt_lo _, cnt_hi _, for_it walk_range (fun i σ H3 => ∃ x1 x2, σ = [some (.ref a), x1, x2, none] ∧ ExtN H H3 ∧ Tabs (tabL P1) H3) ⟨none, none, rfl, ExtN.refl _, tb⟩ (fun _ _ _ _ _ => trivial) ?_ fun σ H3 _ => k H3⟩
  rintro i x σ H3 H4 hi ⟨x1, x2, rfl, s3, t3⟩ ⟨rfl, rfl⟩
  have hi3 : (i : Int) < 3 := by
    have h3 : i < (cnt (ns.map V.int).length).toNat := hi
    omega
  refine ⟨_, rfl, _, rfl, a, ns, _, rfl, sq_ext s3 ha, hz, by omega, by omega, fun H5 p s5 np hp => ?_⟩
  have t5 := t3.ext s5
  refine ⟨(5 : Int), rfl, by decide, by decide, fun D nD => ?_⟩
  have Dp := pot_ne hp nD
  refine lc_gen walk_range (fun j H6 => ExtB p H5 H6 ∧ PotAt H6 p (700 * (j : Int)) ∧ Tabs (tabL P1) H6) (fun _ v _ => v = .bl true) (fun j H6 xs ys a hy => ⟨extB_put nD a.1, pot_put a.2.1 Dp, tabs_put a.2.2 hy⟩) (fun _ v _ _ e _ => e) (by decide)
    ⟨extB_put nD (fun _ _ _ _ e => e), (pot_put hp Dp).up (by omega), t5.ext (same_new nD)⟩ (fun _ _ _ _ => trivial) ?_ ?_
  · rintro j x H6 H7 acc hj ⟨b6, hp6, t6⟩ hD ⟨rfl, rfl⟩ Qc kc
    have hj6 : j < 5 := hj
    refine ⟨rfl, _, rfl, p, 700 * (j : Int), rfl, hp6, by omega, t6, fun H8 c8 hc8 x8 hp8 t8 => kc _ H8 (x8 _ _ Dp (fun _ z => nomatch z) hD) (ExtB.kp hp6 x8) ⟨b6.trans x8, hp8.up (by omega), t8⟩ rfl⟩
  rintro H7 ys ⟨x7, hp7, t7⟩ hD7 hl7 hy7
  have ey := trues hy7
  refine ⟨D, List.replicate ys.length true, rfl, SqL.of (by rw [← ey]; exact hD7), true, by rw [all_rep], iF ?_⟩
  refine ⟨_, _, rfl, fun b o e t => ?_, t7⟩
  have bp : b ≠ p := ne_of_none (s3 b o e t) np
  exact x7 b o bp t (s5 b o (s3 b o e t))
end
end Bk
end
--@@ genb
set_option Elab.async false
set_option linter.all false
set_option maxRecDepth 100000
set_option maxHeartbeats 8000000
namespace Bk
open PySem PySem.Spec PyProof.Rows L2 Tg LamX Dw
theorem fin {l : PySem.W.OpenLaw} {w : World} {K : PySem.W.Frag} {mg : Str → Option Value} {fa : Addr} {h : Heap} (hfa : mg "law" = some (.ref fa)) (KX : K.In h) {P1 c1 : Addr} (c : Hy.Says qk h K) (tf : qk.tf = [(c1, P1)]) (T : Tx l.prog K mg)
    (FC : FunC K "_law_right" "_law_right" s__law_right T.a__law_right T.fd__law_right c1) : AtGT l w K CX0 32 63 "_law_script" mg fa h := by
  have e := hfa.symm.trans T.m_law
  injection e with e
  injection e with e
  subst e
  have inT : (c1, P1) ∈ qk.tf := by rw [tf]; exact .head _
  refine ⟨T.fd_law, [(c1, P1)], spLaw K P1, ?_, ?_, ?_, ?_, ?_, ?_⟩
  · intro p hp
    simp only [List.mem_cons, List.not_mem_nil, or_false] at hp
    subst hp
    exact c.empty _ inT
  · intro p hp
    simp only [List.mem_cons, List.not_mem_nil, or_false] at hp
    subst hp
    exact c.out _ inT
  · intro p hp
    simp only [List.mem_cons, List.not_mem_nil, or_false] at hp
    subst hp
    exact PySem.W.codeHd_of_K KX (c.hd _ inT)
  · intro s v
    obtain ⟨_, _, _, _, _, _, _, _, _, q, _⟩ := T.F_law.ex
    rw [q]
    exact .of_eq rfl
  · intro H a ns hl ht hs
    refine ⟨a, ns, rfl, hs, hl, fun p hp => ?_, fun _ => rfl⟩
    simp only [tabL, List.mem_cons, List.not_mem_nil, or_false] at hp
    subst hp
    exact TabS.nil (ht (c1, P1) (by simp))
  · intro base _ _ tb
    exact ok_law T (tb (c1, P1) (by simp)) FC
theorem facts {l : PySem.W.OpenLaw} {w : World} {K : PySem.W.Frag} {mg : Str → Option Value} {fa : Addr} {h : Heap} (KX : K.In h) (G : h.Ns mainGlobals mg) (hfa : mg "law" = some (.ref fa)) (c : Hy.Says qk h K)
    (hf : (l.prog.main.file : Str) = qk.file) (tp : (l.prog.main.scope.names.lookup ("super" : Str)).isSome = false) : AtGT l w K CX0 32 63 "_law_script" mg fa h :=
  fin (P1 := 770) (c1 := 774) hfa KX c rfl (tx_mk KX G hf c tp) (Hy.funC_of (tx_mk KX G hf c tp).F__law_right (Hy.ex_at (l := exs K) c.ex 25))
end Bk
open PySem PySem.W PySem.Calls PyProof.Rows
set_option maxHeartbeats 0 in
theorem PySem.Challenge.cw_tagless_k03_names_and_rings_holds : PySem.Challenge.rw_tagless_k03_names_and_rings.Holds := by
  w_on; o_law
  refine HandSHeadRun.head_any (r := OpenLaw.row PySem.Challenge.rw_tagless_k03_names_and_rings) (q := view (OpenLaw.row PySem.Challenge.rw_tagless_k03_names_and_rings).prog [Bk.lawAt]) (H := Bk.qk.hook) (ob := Bk.qk.ob) (M := 9000) (loose := Bk.nm) (d := HandSHeadRun.topDef (OpenLaw.row PySem.Challenge.rw_tagless_k03_names_and_rings).prog Bk.lawAt) (kwd := []) (Hy.Ask.ob_eq Bk.qk)
    (by kernel_rfl) (fun s => by kernel_rfl) Bk.run (by kernel_rfl) (by kernel_rfl) (by kernel_rfl) (by rfl) (by first | assumption | decide +kernel) (by decide +kernel) ⟨rfl, rfl, rfl, rfl, rfl, by decide +kernel⟩ ?hw ?hc
  case hw => w_witness2
  case hc =>
    refine Tg.walkGT2 (l := PySem.Challenge.rw_tagless_k03_names_and_rings) (n := 63) (k := 32) (x := "_law_script") (CX := fun _ => L2.CX0) rfl (by decide) (by kernel_rfl) ⟨rfl, by decide, by decide⟩ ?F (fun _ _ _ _ _ z => z)
    intro w mg fa h Y G hmg0
    obtain ⟨K, KX, c⟩ := Y
    have hmg : mg ("law" : PySem.Str) = some (.ref fa) := by
      have e : (HandSHeadRun.topDef (OpenLaw.row PySem.Challenge.rw_tagless_k03_names_and_rings).prog Bk.lawAt).name = ("law" : PySem.Str) := by kernel_rfl
      rw [← e]
      exact hmg0
    exact ⟨K, KX, Bk.facts KX G hmg c rfl (by decide +kernel)⟩
