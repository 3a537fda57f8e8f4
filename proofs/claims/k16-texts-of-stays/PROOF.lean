import PyProof.Rows.All
import Wide.All
import OpenK.AllK
import Wide.FinOn
import HandS.ForMost
import HandS.ExcInit
import HandS.ExcField
import HandS.IsInst
import HandS.Defaults
import HandS.MakeKw
import HandS.MakeKwOnly
import HandS.ExcIs
import HandS.ExcValue
import KE.KExcIs
import HandS.OwnEq
import KE.KOpsOwn
import KE.KFmtOwn
import KE.KCallOwn
import HandS.Exc
import HandS.TryOnly
import HandS.OwnIter
import HandS.IterVal
import PyProof.CollectIter
import PyProof.WalksMore
import PyProof.EqKinds
import HandS.Lambda
import HandS.EndTab
import KE.KNestM
import HandS.Wide
import HandS.Codes
import HandS.Style
import KE.KxIndex
import HandS.ClsMeth
import HandS.WordsExc
import HandS.Conv
import HandS.FStr
import HandS.Text
import HandS.Comp
import HandS.Iter
import PySem.Challenge.RW_nodeadnight_k16_texts_of_stays
set_option Elab.async false
set_option linter.all false
set_option maxRecDepth 100000
set_option maxHeartbeats 4000000
/-! NBa: defs that may show containers (repr): a promise over the surroundings in which nothing is being shown. -/
namespace NB
open PySem PySem.Spec PyProof.Rows L2

/-- the promise of a def where no repr is under way -/
structure FnG (P : Program) (w : World) (K : PySem.W.Frag) (mg : Str → Option Value) (base : Heap)
    (CX : CXT) (k : Nat) (f : Addr) (fd : FuncData) (ps : List Str) (sp : Sp) : Prop where
  len : ∀ vs H Q E, sp vs H Q E → vs.length = ps.length
  run : ∀ (A : Around) (outer : List Env) (s : Shared) (H : Hp) (args : Args) (us : List Value) (vs : List V) (Q : VK) (E : XK),
    Room k A → A.guards = some [] → Env0 P w K mg base A outer s H → BindsTo s fd args (ps.zip us) →
    Vals vs us → sp vs H Q E → codeAny (model P w) A (.call (.ref f) args) (CR CX outer P w H s Q E) s

section
variable {CX : CXT} {P : Program} {w : World} {K : PySem.W.Frag} {mg : Str → Option Value} {base : Heap}
theorem FnG.of {k : Nat} {f : Addr} {fd : FuncData} {ps : List Str} {sp : Sp} (F : FnOk P w K mg base CX k f fd ps sp) :
    FnG P w K mg base CX k f fd ps sp :=
  ⟨F.len, fun A o s H ar us vs Q E hr _ => F.run A o s H ar us vs Q E hr⟩

theorem fnG_of {k : Nat} {f : Addr} {name qual : Str} {params : Arguments} {body : List Stmt} {scope : Scope}
    {dV kV doc pm cdv ct oc : Value} {an od : Option Addr} {osl : Array (Option Value)} {N ps : List Str} {sp : Sp}
    (lk : K.lookup f = some ⟨oc, od, .func (PySem.W.fnOf name qual params body scope dV kV doc pm an cdv ct), osl⟩)
    (hcd : PySem.W.codeIn K cdv qual = true) (S : FnScope N ps scope)
    (len : ∀ vs H Q E, sp vs H Q E → vs.length = ps.length)
    (hbody : ∀ (A : Around) (outer : List Env) (s : Shared) (H : Hp) (vs : List V) (Q : VK) (E : XK),
      Room k (A.deeper (envOfC qual scope s.heap.objs.size f cdv)) → A.guards = some [] → sp vs H Q E →
      ∃ t, PSs (cxOf CX P w K mg base N qual scope f cdv A outer s H E) body t ∧
        t { nx := fun _ H' => Q .non H', rt := Q } (start N vs) H) :
    FnG P w K mg base CX (k + 1) f (PySem.W.fnOf name qual params body scope dV kV doc pm an cdv ct) ps sp := by
  refine ⟨len, ?_⟩
  intro A outer s H args us vs Q E room gd env bd rel hsp
  have inK : K.In s.heap := env.mod.kin.keeps (fun b o e => (env.bs b o e).1)
  have noLim : s.heap.NoLimit := env.mod.nolimit.keeps (fun b o e => (env.bs b o e).1)
  have kinds : ∀ y ∈ ps.zip us, scope.names.lookup y.1 = some .local ∨
      (scope.names.lookup y.1 = some .cell ∧
        ((cellsFrom (s.heap.objs.size + 1) scope.names []).lookup y.1).isSome = true) := by
    rintro ⟨n, v⟩ hy
    rcases S.par n (List.of_mem_zip hy).1 with z | z
    · exact Or.inl z
    · exact Or.inr ⟨z, PySem.W.cellsFrom_some _ _ _ (Or.inl z)⟩
  refine codeAny_call_function room.depth (inK _ _ lk) rfl S.co S.gen rfl (PySem.W.codeRec_of inK hcd)
    (bd _ _ _ _ (wpAny_newFunctionEnv_cells S.kind kinds fun env' he s1 x => ?_))
  subst he
  refine ⟨noLim.keeps x.toInCall.keep, codeAny_func ?_⟩
  obtain ⟨t, ht, hq⟩ := hbody A outer s H vs Q E (room.deeper _) gd hsp
  have I0 := inv_start (CX := CX) (E := E) S room.hd env (len _ _ _ _ hsp) rel x
  refine wpAny_mono (ht.run [] s1 (start N vs) H _ I0 hq) ?_ (fun e s' z => z)
  intro fl s' hs
  match fl, hs with
  | .ret u, ⟨v, σ', H', J, rv, q⟩ => exact ⟨v, H', J.os, J.bare, J.base, J.hok, rv, q⟩
  | .next, ⟨σ', H', J, q⟩ => exact ⟨V.non, H', J.os, J.bare, J.base, J.hok, rfl, q⟩
  | .brk, ⟨_, _, _, q⟩ => exact q.elim
  | .cont, ⟨_, _, _, q⟩ => exact q.elim

theorem okG {x qual : Str} {st : Stmt} {f : Addr} {fd : FuncData} {N ps : List Str} {k : Nat} {sp : Sp}
    (F : Fun K x qual st f fd) (S : FnScope N ps (defScope st)) (len : ∀ vs H Q E, sp vs H Q E → vs.length = ps.length)
    (hbody : ∀ (cdv : Value) (A : Around) (outer : List Env) (s : Shared) (H : Hp) (vs : List V) (Q : VK) (E : XK),
      Room k (A.deeper (envOfC qual (defScope st) s.heap.objs.size f cdv)) →
      (A.deeper (envOfC qual (defScope st) s.heap.objs.size f cdv)).guards = some [] → sp vs H Q E →
      ∃ t, PSs (cxOf CX0 P w K mg base N qual (defScope st) f cdv A outer s H E).nox (defBody st) t ∧
        t { nx := fun _ H' => Q .non H', rt := Q } (start N vs) H) :
    FnG P w K mg base CX0 (k + 1) f fd ps sp := by
  obtain ⟨oc, od, kV, doc, pm, an, cdv, ct, osl, rfl, lk, hcd⟩ := F.ex
  refine fnG_of lk hcd S len ?_
  intro A outer s H vs Q E room gd hsp
  obtain ⟨t, h, q⟩ := hbody cdv A outer s H vs Q E room gd hsp
  exact ⟨t, h.nox, q⟩
end

section
variable {X : Cx} {CX : CXT} {k : Nat} {f : Addr} {fd : FuncData} {ps : List Str} {sp : Sp} {ds : List Value} {dvs : List V} {E : XK} {x : Str} {e : Expr} {es : List Expr} {t : TA} {p pos : Pos}
/-- f(e, ..), f a def that shows -/
theorem pe_callG (F : FnG X.prog X.w X.K X.mg X.base CX k f fd ps sp) (hr : Room k X.A) (gd : X.A.guards = some [])
    (hg : Gl X x) (hm : X.mg x = some (.ref f)) (hk : PySem.W.keepIn X.K (.ref f) = true) (hb : Binds X.K fd ps ds)
    (hd : Vals dvs ds) (hx : Passes CX X E) (ha : PA X (e :: es) t) (hdb : (x == ("__debug__" : Str)) = false := by decide)
    (he : starEach (e :: es) X.env = (false, eval e X.env) :: starEach es X.env := by rfl)
    (hpl : (backTo pos (starEach es X.env)).any (·.1) = false := by rfl) :
    PE X (.Call (.Name x p) (e :: es) [] pos) (tCall sp dvs E t) := by
  constructor
  intro pins s σ H Q I h
  refine wpAny_Call_Name_kw (ld_glob I hg hm ?_ hdb)
  refine PySem.W.callWith_K (h₀ := X.base) I.ok.mod.kin hk (thn (ha.run pos pins s σ H _ I h) ?_) he hpl
  rintro us s1 ⟨vs, H1, I1, r, q⟩
  refine ⟨I1.kIn, ?_⟩
  have r2 : Vals (vs ++ dvs) (us ++ ds) := r.append hd
  have hl : (us ++ ds).length = ps.length := r2.length.symm.trans (F.len _ _ _ _ q)
  refine wpAny_call (codeAny_mono (F.run X.A X.stack s1 H1 ⟨us, []⟩ (us ++ ds) (vs ++ dvs) Q E hr gd I1.env0 (hb s1 us I1.kIn hl) r2 q) ?_)
  intro r s' hq
  match r, hq with
  | .error e, hq => exact hx pins σ H1 s1 e s' I1 hq
  | .ok (.ret u), hq => exact I1.after hq
end

/-- the law's own call -/
theorem law_callG {P : Program} {w : World} {K : PySem.W.Frag} {mg mb : Str → Option Value} {k : Nat} {fa a : Addr} {fd : FuncData} {x : Str} {sp : Sp}
    {s₁ : Shared} {vs : List Value} {ns : List Int} (KX : K.In s₁.heap) (hns : s₁.heap.Ns mainGlobals mg) (hb : s₁.heap.Ns builtinsNs mb)
    (hbb : ∀ x : Str, x ≠ "__name__" → mb x = bootBuiltins x) (hlim : s₁.heap.NoLimit) (hg : s₁.gens = #[])
    (ha : s₁.heap.get? a = some { cls := .type "list", data := .seq vs.toArray }) (hi : IntsAre vs ns) (hl : ns.length ≤ sizeLine) (hr : Room k callerA)
    (F : ∀ base : Heap, K.In base → base.Ns mainGlobals mg → FnG P w K mg base CX0 k fa fd [x] sp)
    (hbind : ∀ (s : Shared) (u : Value), BindsTo s fd ⟨[u], []⟩ [(x, u)])
    (hsp : ∀ H : Hp, Only H → SqL K H a (ns.map V.int) → sp [.ref a] H (fun v _ => v = .bl true) fun _ _ _ => False) :
    codeAny (model P w) callerA (.call (.ref fa) ⟨[.ref a], []⟩)
      (fun r s' => r = .ok (.ret (.bool true)) ∧ OldK s₁.heap s'.heap ∧ s'.os = s₁.os ∧ AllBare s'.gens) s₁ := by
  -- whatever is tracked at the entry is the script alone
  have main : ∀ H : Hp, Only H → SqL K H a (ns.map V.int) → HOk P w H s₁.heap → (∀ b, H b ≠ none → b = a) → (H a ≠ none → K.lookup a = none) →
      codeAny (model P w) callerA (.call (.ref fa) ⟨[.ref a], []⟩)
        (fun r s' => r = .ok (.ret (.bool true)) ∧ OldK s₁.heap s'.heap ∧ s'.os = s₁.os ∧ AllBare s'.gens) s₁ := by
    intro H only hS hok one hK
    have isA : ∀ {b : Addr} {u : HO}, H b = some u → b = a := fun {b u} q => one b (by rw [q]; exact Option.some_ne_none u)
    have dictFree : ∀ {b : Addr} {o : Obj} {es : Array DictEntry} {ep : Nat}, s₁.heap.get? b = some o → o.data = .dict es ep → H b = none := by
      intro b o es ep e d
      cases q : H b with
      | none => rfl
      | some u =>
        have z := isA q
        rw [z, ha] at e
        have e' := Option.some.inj e
        rw [← e'] at d
        exact absurd d (by intro y; cases y)
    have nsK : ∀ {b : Addr} {m : Str → Option Value}, s₁.heap.Ns b m → (hidT s₁.heap H).Ns b m := by
      rintro b m ⟨o, es, ep, e, d, r⟩
      exact ⟨o, es, ep, hidT_get e (dictFree e d), d, r⟩
    have kInB : K.In (hidT s₁.heap H) := by
      intro b o e
      refine hidT_get (KX b o e) ?_
      cases q : H b with
      | none => rfl
      | some u =>
        have z := isA q
        rw [z] at q e
        rw [hK (by rw [q]; exact Option.some_ne_none u)] at e
        cases e
    have md : Mod K mg (hidT s₁.heap H) := ⟨kInB, nsK hns, ⟨mb, nsK hb, hbb⟩, by obtain ⟨mc, h1, h2⟩ := hlim; exact ⟨mc, nsK h1, h2⟩⟩
    have e0 : Env0 P w K mg (hidT s₁.heap H) callerA [] s₁ H :=
      ⟨rfl, md, fun b o e => of_hidT e, Nat.le_of_eq (hidT_size _ _), trivial, fun b z => (List.not_mem_nil z).elim, hok, .of_eq hg⟩
    have goal := (F _ kInB (nsK hns)).run callerA [] s₁ H ⟨[.ref a], []⟩ [.ref a] [.ref a] _ _ hr rfl e0 (hbind s₁ (.ref a)) (.cons rfl .nil) (hsp H only hS)
    refine codeAny_mono goal ?_
    intro r s' h
    match r, h with
    | .ok (.ret u), ⟨v, H', os, bare, un, hok', r', q⟩ =>
      have q' : v = .bl true := q
      subst q'
      obtain rfl : u = Value.bool true := r'
      refine ⟨rfl, OldK.of_keep ?_, os, bare⟩
      intro b o e
      cases q : H b with
      | none => exact un.keep b o e q (fun z => (List.not_mem_nil z).elim) (fun z => (List.not_mem_nil z).elim)
      | some u =>
        rcases only b with z | ⟨ob, xs, z⟩
        · rw [z] at q
          cases q
        · obtain ⟨e1, _⟩ := hok b _ z
          obtain ⟨e2, _⟩ := hok' b _ (un.frzs b ob _ z)
          exact e2.trans (e1.symm.trans e)
  have rv := vals_ints hi
  cases hk : K.lookup a with
  | some o =>
    have e := KX a o hk
    rw [ha] at e
    have e' := Option.some.inj e
    subst e'
    refine main (fun _ => none) (fun _ => .inl rfl) (.inr ⟨_, vs.toArray, _, hk, rfl, rfl, rfl, ?_, ?_⟩) (fun b u z => ?_) (fun b z => (z rfl).elim) (fun z => (z rfl).elim)
    · rw [List.size_toArray, hi.length]
      exact hl
    · simpa using rv
    · exact absurd z (by intro y; cases y)
  | none =>
    have at_ : ∀ b, (fun b : Addr => if b = a then some (HO.frz { cls := .type "list", data := .seq vs.toArray } (.lst (ns.map V.int))) else none) b ≠ none → b = a := by
      intro b z
      by_cases hb : b = a
      · exact hb
      · exact absurd (if_neg hb) z
    refine main (fun b => if b = a then some (HO.frz { cls := .type "list", data := .seq vs.toArray } (.lst (ns.map V.int))) else none) (fun b => ?_)
      (.inl (.inr ⟨_, if_pos rfl⟩)) (fun b u z => ?_) at_ (fun _ => hk)
    · by_cases hb : b = a
      · exact .inr ⟨_, _, if_pos hb⟩
      · exact .inl (if_neg hb)
    · have hb := at_ b (by rw [z]; exact Option.some_ne_none u)
      have z' := (if_pos hb).symm.trans z
      have z2 := Option.some.inj z'
      subst z2
      rw [hb]
      exact ⟨ha, by rw [List.length_map]; exact hl, vs, _, rv, ha⟩

theorem walk_ofG {l : PySem.W.OpenLaw} {n k : Nat} {q : Program} {loose : List Str} {XP : (Str → Option Value) → Heap → Prop} {YP : World → Heap → Prop}
    {d : DefRec} {K : Params → PySem.W.Frag} {sp : PySem.W.Frag → Sp} {x : Str}
    (hn : l.most = some n) (hn2 : n ≤ sizeLine) (hdf : d.params.defaults = []) (hr : Room k callerA)
    (hY : ∀ (w : World) (h : Heap), YP w h → (K w.params).In h)
    (F : ∀ (w : World) (mg : Str → Option Value) (fa : Addr) (h : Heap), (K w.params).In h → h.Ns mainGlobals mg → mg d.name = some (.ref fa) →
      ∃ fd : FuncData, (∀ (s : Shared) (u : Value), BindsTo s fd ⟨[u], []⟩ [(x, u)]) ∧
        ∀ base : Heap, (K w.params).In base → base.Ns mainGlobals mg →
          FnG l.prog w (K w.params) mg base CX0 k fa fd [x] (sp (K w.params)))
    (hsp : ∀ (K : PySem.W.Frag) (H : Hp) (a : Addr) (ns : List Int), ns.length ≤ n → Only H → SqL K H a (ns.map V.int) →
      sp K [.ref a] H (fun v _ => v = .bl true) fun _ _ _ => False) :
    PySem.W.WalkO q loose XP YP l.row.toRowW d [] (fun f vs => PySem.call f vs) := by
  refine Att.attach_call hn hdf ?_
  intro w s₀ s₁ mg mb fa o pm cd doc a vs ns G Y ho hd hcd hmg hobj hints hlen hg
  obtain ⟨fd, hb, hF⟩ := F w mg fa _ (hY w _ Y) G.T.g hmg
  exact law_callG (hY w _ Y) G.T.g G.T.b G.T.builtins G.T.nolimit hg hobj hints (Nat.le_trans hlen hn2) hr hF hb
    (fun H hO hS => hsp (K w.params) H a ns hlen hO hS)
end NB
/-! NBb: repr of data (dicts too) in the layer. -/
namespace NB
open PySem PySem.Spec PyProof.Rows L2

def keyD : Key → PyData
  | .inl i => .int i
  | .inr x => .str x
mutual
inductive DR (K : PySem.W.Frag) (H : Hp) : V → PyData → Prop
  | non : DR K H .non .none
  | bl (b : Bool) : DR K H (.bl b) (.bool b)
  | int (i : Int) : DR K H (.int i) (.int i)
  | str (x : Str) : DR K H (.str x) (.str x)
  | lst {a : Addr} {xs : List V} {ds : List PyData} : a ≠ sysModules → SqL K H a xs → DRs K H xs ds → DR K H (.ref a) (.list ds)
  | tup {a : Addr} {xs : List V} {ds : List PyData} : SqT K H a xs → DRs K H xs ds → DR K H (.ref a) (.tuple ds)
  | dct {a : Addr} {kvs : List (Key × V)} {ds : List PyData} : H a = some (.dK kvs) → DRs K H (kvs.map (·.2)) ds →
      DR K H (.ref a) (.dict ((kvs.map fun p => keyD p.1).zip ds))
inductive DRs (K : PySem.W.Frag) (H : Hp) : List V → List PyData → Prop
  | nil : DRs K H [] []
  | cons {v : V} {vs : List V} {d : PyData} {ds : List PyData} : DR K H v d → DRs K H vs ds → DRs K H (v :: vs) (d :: ds)
end

/-- what stands stays readable where all that is tracked is kept -/
theorem sq_keep {K : PySem.W.Frag} {H H' : Hp} (e : ∀ a o, H a = some o → H' a = some o) {a : Addr} {xs : List V} (h : SqL K H a xs) : SqL K H' a xs := by
  rcases h with (h | ⟨o, h⟩) | h
  · exact Or.inl (Or.inl (e _ _ h))
  · exact Or.inl (Or.inr ⟨o, e _ _ h⟩)
  · exact Or.inr h
theorem st_keep {K : PySem.W.Frag} {H H' : Hp} (e : ∀ a o, H a = some o → H' a = some o) {a : Addr} {xs : List V} (h : SqT K H a xs) : SqT K H' a xs := by
  rcases h with (h | ⟨o, h⟩) | h
  · exact Or.inl (Or.inl (e _ _ h))
  · exact Or.inl (Or.inr ⟨o, e _ _ h⟩)
  · exact Or.inr h
mutual
theorem DR.keep {K : PySem.W.Frag} {H H' : Hp} (e : ∀ a o, H a = some o → H' a = some o) : ∀ {v : V} {d : PyData}, DR K H v d → DR K H' v d
  | _, _, .non => .non
  | _, _, .bl b => .bl b
  | _, _, .int i => .int i
  | _, _, .str x => .str x
  | _, _, .lst n h r => .lst n (sq_keep e h) (DRs.keep e r)
  | _, _, .tup h r => .tup (st_keep e h) (DRs.keep e r)
  | _, _, .dct h r => .dct (e _ _ h) (DRs.keep e r)
theorem DRs.keep {K : PySem.W.Frag} {H H' : Hp} (e : ∀ a o, H a = some o → H' a = some o) : ∀ {vs : List V} {ds : List PyData}, DRs K H vs ds → DRs K H' vs ds
  | _, _, .nil => .nil
  | _, _, .cons h r => .cons (DR.keep e h) (DRs.keep e r)
end

section
variable {X : Cx} {pins : List (Addr × Obj)} {σ : L2.St} {H : Hp} {s : Shared}
theorem keys_read {P : Program} {w : World} {h : Heap} : ∀ {es : List DictEntry} {kvs : List (Key × V)} {vs : List (Key × Value)}, KV kvs vs → Pairs (mixKind P w) es vs →
    ReadsAll h (es.map (·.key)) (kvs.map fun p => keyD p.1) [] ∧ Vals (kvs.map (·.2)) (es.map (·.val)) := by
  intro es kvs vs kv pr
  induction pr generalizing kvs with
  | nil => cases kv; exact ⟨.nil, .nil⟩
  | @cons e q es vs h1 h3 h2 ih =>
    cases kv with
    | @cons p _ kvs _ r kv' =>
      obtain ⟨i1, i2⟩ := ih kv'
      obtain ⟨k, v⟩ := p
      obtain ⟨k', v'⟩ := q
      obtain ⟨rk, rv⟩ := r
      have rk' : k = k' := rk
      subst rk'
      have h1 : keyIs k e.key = true := h1
      have h3 : e.val = v' := h3
      refine ⟨?_, .cons (by show RelV v e.val; rw [h3]; exact rv) i2⟩
      show ReadsAll h (e.key :: es.map (·.key)) (keyD k :: kvs.map fun p => keyD p.1) []
      have q : Reads h e.key (keyD k) [] := by
        rcases keyIs_shape h1 with ⟨i, t, rfl, z⟩ | ⟨x, t, rfl, z⟩
        · rw [z]; exact .int i t
        · rw [z]; exact .str x t
      exact ReadsAll.cons (as := []) (bs := []) q i1
theorem DRs.length {K : PySem.W.Frag} : ∀ {vs : List V} {ds : List PyData}, DRs K H vs ds → ds.length = vs.length
  | _, _, .nil => rfl
  | _, _, .cons _ r => congrArg (· + 1) (DRs.length r)
mutual
theorem DR.reads (I : Inv X pins σ H s) : ∀ {v : V} {d : PyData}, DR X.K H v d → ∀ (u : Value), RelV v u → ∃ as, Reads s.heap u d as ∧ sysModules ∉ as
  | _, _, .non, _, r => by
    cases r
    exact ⟨_, .none, List.not_mem_nil⟩
  | _, _, .bl b, _, r => by
    cases r
    exact ⟨_, .bool b, List.not_mem_nil⟩
  | _, _, .int i, _, r => by
    obtain ⟨t, rfl⟩ := r
    exact ⟨_, .int i t, List.not_mem_nil⟩
  | _, _, .str x, _, r => by
    obtain ⟨t, rfl⟩ := r
    exact ⟨_, .str x t, List.not_mem_nil⟩
  | _, _, .lst hn hs ha, _, r => by
    cases r
    obtain ⟨its, rv, ⟨o, n, ho, hc, _, hd⟩, _⟩ := I.list hs
    obtain ⟨as, hr, hm⟩ := DRs.reads I ha its rv
    refine ⟨_, .list ho hc hd hr, fun z => ?_⟩
    rcases List.mem_cons.mp z with z | z
    · exact hn z.symm
    · exact hm z
  | _, _, .tup hs ha, _, r => by
    cases r
    obtain ⟨its, rv, ⟨o, ho, hc, n, hd⟩, _⟩ := I.tuple hs
    obtain ⟨as, hr, hm⟩ := DRs.reads I ha its rv
    exact ⟨_, .tuple ho hc hd hr, hm⟩
  | _, _, @DR.dct _ _ a kvs ds he ha, _, r => by
    cases r
    obtain ⟨_, hsys, vs, kv, o, es, ep, ho, hex, hd, _, hp, _⟩ : kvs.length ≤ sizeLine ∧ (a == sysModules) = false ∧ ∃ vs, KV kvs vs ∧ s.heap.DictOf (mixKind X.prog X.w) a vs := I.hok a _ he
    obtain ⟨h1, h2⟩ := keys_read (h := s.heap) kv hp
    have hl : ds.length = kvs.length := by rw [DRs.length ha, List.length_map]
    have e1 : ((kvs.map fun p => keyD p.1).zip ds).map (·.1) = kvs.map fun p => keyD p.1 := List.map_fst_zip (by rw [List.length_map, hl]; exact Nat.le_refl _)
    have e2 : ((kvs.map fun p => keyD p.1).zip ds).map (·.2) = ds := List.map_snd_zip (by rw [List.length_map, hl]; exact Nat.le_refl _)
    obtain ⟨as, hr, hm⟩ := DRs.reads I ha (es.toList.map (·.val)) h2
    refine ⟨_, .dict ho hex.1 hd (as := []) (bs := as) (by rw [e1]; exact h1) (by rw [e2]; exact hr), fun z => ?_⟩
    rcases List.mem_cons.mp z with z | z
    · rw [z] at hsys; simp at hsys
    · exact hm z
theorem DRs.reads (I : Inv X pins σ H s) : ∀ {vs : List V} {ds : List PyData}, DRs X.K H vs ds → ∀ (us : List Value), Vals vs us → ∃ as, ReadsAll s.heap us ds as ∧ sysModules ∉ as
  | _, _, .nil, _, r => by
    cases r
    exact ⟨_, .nil, List.not_mem_nil⟩
  | _, _, .cons h1 h2, _, r => by
    cases r with
    | cons r1 r2 =>
      obtain ⟨as, q1, m1⟩ := DR.reads I h1 _ r1
      obtain ⟨bs, q2, m2⟩ := DRs.reads I h2 _ r2
      exact ⟨_, .cons q1 q2, fun z => (List.mem_append.mp z).elim m1 m2⟩
end
end

/-- repr(x): the text of the data -/
def rRepr (K : PySem.W.Frag) : List V → Hp → VK → Prop := fun xs H Q => ∃ (x : V) (d : PyData), xs = [x] ∧ DR K H x d ∧ d.showable = true ∧ d.depth ≤ 60 ∧ d.shown.length ≤ sizeLine ∧ Q (.str d.shown) H
theorem call_repr {X : Cx} {k : Nat} (hr : Room k X.A) (gd : X.A.guards = some []) : CallR X (.builtin "repr") (rRepr X.K) := by
  intro pins s σ H xs us Q I r h
  obtain ⟨x, d, rfl, hd, h1, h2, h3, q⟩ := h
  obtain ⟨u, rfl, rx⟩ := vals1 r
  cases hd with
  | non =>
    cases rx
    exact PySem.P.repr_of_none ⟨.str _, H, I.tok _, ⟨_, rfl⟩, q⟩
  | bl b =>
    cases rx
    exact PySem.P.repr_of_bool ⟨.str _, H, I.tok _, ⟨_, rfl⟩, q⟩
  | int i =>
    obtain ⟨t, rfl⟩ := rx
    exact PySem.P.repr_of_int (of_decide_eq_true h1) ⟨.str _, H, I.tok _, ⟨_, rfl⟩, q⟩
  | str y =>
    obtain ⟨t, rfl⟩ := rx
    exact PySem.P.repr_of_str ⟨.str _, H, I.tok _, ⟨_, rfl⟩, q⟩ h3
  | lst a b c =>
    obtain ⟨as, rd, nm⟩ := DR.reads I (.lst a b c) _ rx
    cases rx
    exact repr_of_reads' rd h1 (fun _ => nm) gd (by have := hr.units; omega) (fun _ _ e => e) (fun h' u tk hk => ⟨.str _, H, I.kept hk, ⟨_, rfl⟩, q⟩) h3
  | tup a b =>
    obtain ⟨as, rd, nm⟩ := DR.reads I (.tup a b) _ rx
    cases rx
    exact repr_of_reads' rd h1 (fun _ => nm) gd (by have := hr.units; omega) (fun _ _ e => e) (fun h' u tk hk => ⟨.str _, H, I.kept hk, ⟨_, rfl⟩, q⟩) h3
  | dct a b =>
    obtain ⟨as, rd, nm⟩ := DR.reads I (.dct a b) _ rx
    cases rx
    exact repr_of_reads' rd h1 (fun _ => nm) gd (by have := hr.units; omega) (fun _ _ e => e) (fun h' u tk hk => ⟨.str _, H, I.kept hk, ⟨_, rfl⟩, q⟩) h3

/-- a list display whose place is told to be none of the interpreter's own -/
def tLstM (t : TA) : TE := fun σ H Q => t σ H fun xs H1 => xs.length ≤ sizeLine ∧ ∀ p, H1 p = none → p ≠ sysModules → Q (.ref p) (upd H1 p (.lst xs))
theorem pe_lstM {X : Cx} {es : List Expr} {t : TA} {pos : Pos} (h : PA X es t) : PE X (.List es pos) (tLstM t) := by
  constructor
  intro pins s σ H Q I hq
  refine wpAny_List_spliced (thn (h.run pos pins s σ H _ I hq) ?_)
  rintro us s1 ⟨xs, H1, I1, r, z, q⟩
  refine ⟨r.length ▸ z, .ref s1.heap.objs.size, upd H1 s1.heap.objs.size (.lst xs), ?_, rfl, q _ (I1.hok.fresh (Nat.le_refl _)) (Nat.ne_of_gt I1.big)⟩
  exact I1.laid (t' := s1.toks) (fun b u e => Heap.get?_push_of_some _ e) (Nat.le_refl _) ⟨z, us, 0, r, Heap.get?_push_size _ rfl⟩
end NB
/-! NBc: own exceptions as values: made by place and by name, asked for their class, their fields read. -/
namespace PySem
namespace NBX
open Builtin Builtin.ObjectAttr HandSPX
section
variable {M : Model} {A : Around} {E : Value → Shared → Prop} {h : Heap} {g : Array GenState} {d : Drawn} {t : Nat} {os : OsState}
variable {nm q : Str} {C N : Addr} {bs bm bmB : List Value} {hdct : Bool} {sn : List Str} {sub : List Value} {ab : Bool} {col : Option Bool} {dd : Option Addr} {k0 k1 k2 k3 k5 : Option Value} {B newId initId : String}
variable {kw : List (Str × Value)}
theorem check_newK (F : ExcBaseFacts B newId initId bmB) (hT : ∀ X : String, bm.contains (.type X) = bmB.contains (.type X)) {rest : List Value} {Q : Unit → Shared → Prop}
    (hC : h.get? C = some (excClassObj nm q C N bs bm hdct sn sub ab col dd k0 k1 k2 k3 k5 newId)) (hq : Q () ⟨h, g, d, t, os⟩) :
    wpAny M A (checkBuiltinCall newId ⟨.ref C :: rest, kw⟩) Q E ⟨h, g, d, t, os⟩ := by
  have has : (Value.ref C :: bm).contains (.type B) = true := by rw [List.contains_cons, hT, F.hasB, Bool.or_true]
  have short := F.noStar
  simp only [checkBuiltinCall, F.newKind, F.newSplit, F.newRow]
  repeat (first
    | refine wpAny_loadPart_at hC ?_
    | (refine wpAny_isSubtype_exc hC ?_; rw [has])
    | refine wpAny_staticBase_exc hC ?_
    | refine wpAny_madeBy_exc hC ?_
    | simp only [bne_self_eq_false, Bool.false_eq_true, if_false]
    | wp_step)
  exact hq
end
section
variable {prog : Program} {w : World} {A : Around} {E : Value → Shared → Prop} {R : Result → Shared → Prop} {h : Heap} {g : Array GenState} {d : Drawn} {t : Nat} {os : OsState}
variable {nm q : Str} {C N : Addr} {bs bm bmB : List Value} {hdct : Bool} {sn : List Str} {sub : List Value} {ab : Bool} {col : Option Bool} {dd : Option Addr} {k0 k1 k2 k3 k5 : Option Value} {B newId initId : String}
variable {kw : List (Str × Value)}
theorem newK (F : ExcBaseFacts B newId initId bmB) (hT : ∀ X : String, bm.contains (.type X) = bmB.contains (.type X)) {rest : List Value}
    (hC : h.get? C = some (excClassObj nm q C N bs bm hdct sn sub ab col dd k0 k1 k2 k3 k5 newId))
    (hq : R (.ok (.ret (.ref (h.objs.size + 1)))) ⟨(h.push (W.kdv_tup rest)).push (excO C h.objs.size), g, d, t, os⟩)
    (hrest : rest.length ≤ sizeLine) :
    codeAny (model prog w) A (.builtin newId ⟨.ref C :: rest, kw⟩) R ⟨h, g, d, t, os⟩ := by
  have ends := F.ends
  have c1 : (Value.ref C :: bm).contains (.type B) = true := by rw [List.contains_cons, hT, F.hasB, Bool.or_true]
  have c2 : (Value.ref C :: bm).contains (.type "AttributeError") = false := by rw [List.contains_cons, hT, F.noAttr]; rfl
  have c3 : (Value.ref C :: bm).contains (.type "NameError") = false := by rw [List.contains_cons, hT, F.noName]; rfl
  refine codeAny_builtinAt F.entry ?_
  unfold Builtin.«BaseException.__new__»
  refine wpAt_bind ?_
  show wpAt _ _ _ (stack >>= _) _ _ _
  refine wpAt_bind (wpAt_stack fun p below => wpAt_of_wpAny ?_)
  wp_walk
  refine wpAt_of_wpAny ?_
  rw [F.owner]
  repeat (first
    | with_reducible refine wpAny_madeHere_exc F.canon hC ?_
    | with_reducible refine wpAny_loadPart_at hC ?_
    | (with_reducible refine wpAny_isSubtype_exc hC ?_; first | rw [c1] | rw [c2] | rw [c3])
    | wp_step)
  show R _ _
  rw [Heap.size_push]
  exact hq
theorem type_callK (F : ExcBaseFacts B newId initId bmB) (hT : ∀ X : String, bm.contains (.type X) = bmB.contains (.type X)) {rest : List Value} {fI : Addr} {Q : Fin → Shared → Prop}
    (hC : h.get? C = some (excClassObj nm q C N bs bm hdct sn sub ab col dd k0 k1 k2 k3 k5 newId))
    (hi : W.Looks (model prog w) h (typeLookup (.ref C) "__init__") (some (.ref fI)))
    (hb : ∀ self, W.Looks (model prog w) h (bindSpecial (.ref fI) self) (.ref fI, [self])) (hrest : rest.length ≤ sizeLine)
    (hq : codeAny (model prog w) A (.call (.ref fI) ⟨.ref (h.objs.size + 1) :: rest, kw⟩)
      (fun r s' => match r with
        | .ok (.ret v) => v = .none ∧ Q (.done (.ret (.ref (h.objs.size + 1)))) s'
        | .ok _ => False
        | .error e => E e s')
      ⟨(h.push (W.kdv_tup rest)).push (excO C h.objs.size), g, d, t, os⟩) :
    wpAny (model prog w) A (Builtin.«type.__call__» ⟨.ref C :: rest, kw⟩) Q E ⟨h, g, d, t, os⟩ := by
  repeat (first
    | with_reducible refine wpAny_loadPart_at hC ?_
    | with_reducible refine wpAny_madeBy_exc hC ?_
    | wp_step)
  refine codeAny_call_builtin_code (Code.quiet_builtin _ F.quiet) (check_newK F hT hC (newK F hT hC ?_ hrest))
  show wpAny _ _ _ _ _ _
  have kept : ∀ b o, h.get? b = some o → ((h.push (W.kdv_tup rest)).push (excO C h.objs.size)).get? b = some o :=
    fun b o e => Heap.get?_push_of_some _ (Heap.get?_push_of_some _ e)
  have hC1 := kept _ _ hC
  have new1 : ((h.push (W.kdv_tup rest)).push (excO C h.objs.size)).get? (h.objs.size + 1) = some (excO C h.objs.size) := by heap_get
  have own : (Value.ref C :: bm).contains (.ref C) = true := by simp
  have hi1 := hi.keeps kept
  have hb1 := (hb (.ref (h.objs.size + 1))).keeps kept
  unfold isInstance
  repeat (first
    | with_reducible refine wpAny_loadPart_at new1 ?_
    | (with_reducible refine wpAny_isSubtype_exc hC1 ?_; rw [own])
    | wp_step)
  show wpAny _ _ (typeLookup (.ref C) _) _ _ _
  refine hi1.at (wpAny_holding (wpAny_bind (hb1.at (wpAny_bind (wpAny_call (codeAny_mono hq ?_))))))
  intro r s' z
  rcases r with e | (v | _ | _ | _)
  all_goals first
    | exact z
    | exact z.elim
    | (obtain ⟨rfl, z⟩ := z
       first
         | exact wpAny_pure (wpAny_pure z)
         | (wp_walk; exact z))
theorem callK (F : ExcBaseFacts B newId initId bmB) (hT : ∀ X : String, bm.contains (.type X) = bmB.contains (.type X)) {rest : List Value} {fI : Addr}
    (hC : h.get? C = some (excClassObj nm q C N bs bm hdct sn sub ab col dd k0 k1 k2 k3 k5 newId))
    (hi : W.Looks (model prog w) h (typeLookup (.ref C) "__init__") (some (.ref fI)))
    (hb : ∀ self, W.Looks (model prog w) h (bindSpecial (.ref fI) self) (.ref fI, [self])) (hrest : rest.length ≤ sizeLine)
    (hq : codeAny (model prog w) (A.under (.builtin "type.__call__" ⟨.ref C :: rest, kw⟩)) (.call (.ref fI) ⟨.ref (h.objs.size + 1) :: rest, kw⟩)
      (W.InitBack (h.objs.size + 1) R) ⟨(h.push (W.kdv_tup rest)).push (excO C h.objs.size), g, d, t, os⟩) :
    codeAny (model prog w) A (.call (.ref C) ⟨rest, kw⟩) R ⟨h, g, d, t, os⟩ := by
  have z1 := tc_lookup
  have z2 := tc_bind (.ref C)
  have hTy : (⟨h, g, d, t, os⟩ : Shared).TypeIs (.ref C) "type" := ⟨_, hC, rfl⟩
  refine codeAny_of_tree ?_
  show wpAny _ _ (callAny (.ref C) _) _ _ _
  repeat (any_goals (first | assumption | with_reducible refine wpAny_loadPart_at hC ?_ | wp_step))
  refine ⟨rfl, codeAny_call_builtin_at (Code.quiet_builtin _ (by decide +kernel)) entry_typeCall
    (wpAny_check_type_call_sub hC (type_callK F hT hC hi hb hrest (codeAny_mono hq ?_)))⟩
  intro r s' z
  rcases r with e | (v | _ | _ | _) <;> exact z
end
end NBX
end PySem
/-! NBd: the layer's rules for own exceptions as values. -/
namespace NB
open PySem PySem.Spec L2
abbrev SV := L2.St

/-- an exception that was caught and kept -/
def exk (a C : Addr) (d : Option Addr) : HO := .ext fun h => ∃ (o : Obj) (vs : Array Value), h.get? a = some o ∧ o.cls = .ref C ∧ o.dict = d ∧ o.data = .fields vs
theorem exk_ok {P : Program} {w : World} {H : Hp} {h : Heap} {a C : Addr} {d : Option Addr} {o : Obj} {vs : Array Value} (e : h.get? a = some o) (c : o.cls = .ref C) (dd : o.dict = d) (f : o.data = .fields vs) : ObjOk P w H h a (exk a C d) := by
  refine ⟨⟨o, vs, e, c, dd, f⟩, ⟨o, e⟩, ?_⟩
  rintro h1 h2 ⟨o', v', q, r⟩ k
  exact ⟨o', v', k _ q, r⟩

/-- at a: an exception of the class at C with its dict at d -/
inductive IsEx (H : Hp) (a C : Addr) (d : Option Addr) : Prop
  | new (h : H a = some (exo a C d))
  | kept (h : H a = some (exk a C d))
  | plain (e : d = none) (h : H a = some (ExO (.ref C) a))
inductive XDict (H : Hp) (d : Addr) (fs : List (Str × V)) : Prop
  | new (h : H d = some (exd d fs))
  | old (h : H d = some (.xd fs))
/-- its fields -/
inductive XFs (H : Hp) : Option Addr → List (Str × V) → Prop
  | no : XFs H none []
  | have_ {d : Addr} {fs : List (Str × V)} (h : XDict H d fs) : XFs H (some d) fs

section
variable {P : Program} {w : World} {H H' : Hp} {h : Heap} {a C : Addr} {d : Option Addr} {fs : List (Str × V)}
theorem IsEx.at_ (hok : HOk P w H h) (x : IsEx H a C d) : ∃ (o : Obj) (vs : Array Value), h.get? a = some o ∧ o.cls = .ref C ∧ o.dict = d ∧ o.data = .fields vs := by
  cases x with
  | new e =>
    obtain ⟨t1, q⟩ := exo_at hok e
    exact ⟨_, _, q, rfl, rfl, rfl⟩
  | kept e =>
    have z : ObjOk P w H h a (.ext fun h => ∃ (o : Obj) (vs : Array Value), h.get? a = some o ∧ o.cls = .ref C ∧ o.dict = d ∧ o.data = .fields vs) := hok a _ e
    exact z.1
  | plain ed e =>
    have z : ObjOk P w H h a (.ext fun h => ∃ (oe : Obj) (vs : Array Value), h.get? a = some oe ∧ Zc (.ref C) none oe ∧ oe.data = .fields vs ∧ vs[1]? = some .none ∧ vs[2]? = some .none ∧ 4 < vs.size) := hok a _ e
    obtain ⟨oe, vs, q, zc, f, _⟩ := z.1
    subst ed
    exact ⟨oe, vs, q, zc.1, zc.2, f⟩
theorem XDict.at_ {dx : Addr} (hok : HOk P w H h) (x : XDict H dx fs) : ∃ mA, h.Ns1 dx mA ∧ ∀ f, RelO (fs.lookup f) (mA f) := by
  cases x with
  | new e => exact exd_at hok e
  | old e =>
    have z : ObjOk P w H h dx (.xd fs) := hok dx _ e
    exact z
theorem IsEx.keep (k : ∀ a o, H a = some o → H' a = some o) (x : IsEx H a C d) : IsEx H' a C d := by
  cases x with
  | new e => exact .new (k _ _ e)
  | kept e => exact .kept (k _ _ e)
  | plain ed e => exact .plain ed (k _ _ e)
theorem XFs.keep (k : ∀ a o, H a = some o → H' a = some o) (x : XFs H d fs) : XFs H' d fs := by
  cases x with
  | no => exact .no
  | have_ y =>
    cases y with
    | new e => exact .have_ (.new (k _ _ e))
    | old e => exact .have_ (.old (k _ _ e))
end

section
variable {X : Cx} {pins : List (Addr × Obj)} {σ : SV} {H : Hp} {s : Shared} {a C : Addr} {d : Option Addr} {fs : List (Str × V)}
theorem inst_ex (I : Inv X pins σ H s) (x : IsEx H a C d) (y : XFs H d fs) : ∃ (o : Obj) (od : Option Obj), PySem.W.InstAt s.heap a o C od := by
  obtain ⟨o, vs, e, c, dd, f⟩ := x.at_ I.hok
  have nc : PySem.W.notCls o = true := by unfold PySem.W.notCls; rw [f] <;> rfl
  cases y with
  | no => exact ⟨o, none, ⟨e, c, nc, by rw [dd]; trivial⟩⟩
  | have_ y =>
    obtain ⟨mA, hn, _⟩ := y.at_ I.hok
    obtain ⟨od, ho, _⟩ := lookIn_ns hn
    exact ⟨o, some od, ⟨e, c, nc, by rw [dd]; exact ho⟩⟩
/-- isinstance(e, D), e an exception of an own class -/
def rIsX (K : PySem.W.Frag) : List V → Hp → VK → Prop := fun xs H Q => ∃ (a C : Addr) (d : Option Addr) (fs : List (Str × V)) (c : V) (cv : Value) (b : Bool),
  xs = [.ref a, c] ∧ IsEx H a C d ∧ XFs H d fs ∧ ExcC K C ∧ ClsV c cv ∧ PySem.W.kitOne K (.ref C) cv = some b ∧ Q (.bl b) H
theorem kitx_ex {K : PySem.W.Frag} {ox : Obj} {od : Option Obj} (T : ExcC K C) : PySem.W.KitX K (.ref a) (.ref C) (fun h => PySem.W.InstAt h a ox C od) where
  ty := fun _ _ _ I => I.type
  it := fun _ _ X _ => by
    obtain ⟨cd, hc, _⟩ := PySem.W.any_some T.hd
    unfold PySem.W.clsIn at hc
    split at hc
    · rename_i c' d' cd' sl' ho
      intro A' Q' E' s' k q
      unfold isType loadHead
      exact wpAny_bind (wpAny_loadPart (k _ _ (X _ _ ho)) (wpAny_pure q))
    · cases hc
  ne := fun h tp dd its n sl X htp => by
    obtain ⟨cd, hc, _⟩ := PySem.W.any_some T.hd
    refine Bool.eq_false_iff.mpr ?_
    intro q
    have e : C = tp := Value.ref.inj (beq_iff_eq.mp q)
    subst e
    unfold PySem.W.clsIn at hc
    split at hc
    · rename_i c' d' cd' sl' ho
      cases (X _ _ ho).symm.trans htp
    · cases hc
  ca := fun X I k => PySem.W.kx_classE X I T.hg T.hk T.hs (PySem.W.findObj_dataE (by obtain ⟨cd, hc, _⟩ := PySem.W.any_some T.hd; rw [hc]; rfl) T.ha T.hn T.ht) T.hm k
theorem call_isX : CallR X (.builtin "isinstance") (rIsX X.K) := by
  intro pins s σ H xs us Q I r h
  obtain ⟨a, C, d, fs, c, cv, b, rfl, x, y, T, k, e, q⟩ := h
  obtain ⟨u1, u2, rfl, r1, r2⟩ := vals2 r
  cases r1
  have e2 := k.eq r2
  subst e2
  obtain ⟨o, od, J⟩ := inst_ex I x y
  exact PySem.W.kia_one (kitx_ex T) I.kIn J e (fun z => nomatch z) fun tk => ⟨.bl b, H, I.tok tk, rfl, q⟩

/-- e.f -/
def tEfld (K : PySem.W.Frag) (n : Str) (te : TE) : TE := fun σ H Q => te σ H fun x H1 => ∃ (a C dd : Addr) (fs : List (Str × V)) (v : V),
  x = .ref a ∧ IsEx H1 a C (some dd) ∧ XDict H1 dd fs ∧ XfC K C ∧ PySem.W.findIn K (.ref C) n = some none ∧ fs.lookup n = some v ∧ Q v H1
theorem pe_efld {e : Expr} {te : TE} {pos : Pos} {n : Str} (he : PE X e te) (hb : attributeBase e n X.env (eval e X.env) = eval e X.env := by rfl) : PE X (.Attribute e n pos) (tEfld X.K n te) := by
  constructor
  intro pins s σ H Q I h
  refine attr_of hb (thn (he.run pins s σ H _ I h) ?_)
  rintro u s1 ⟨x, H1, I1, rx, a, C, dd, fs, v, ex, ix, xd, T, hno, l, q⟩
  subst ex
  obtain rfl : u = Value.ref a := rx
  obtain ⟨o, vs, ho, hc, hd, hf⟩ := ix.at_ I1.hok
  obtain ⟨mA, hns, hr⟩ := xd.at_ I1.hok
  obtain ⟨od, hod, hl⟩ := lookIn_ns hns
  obtain ⟨u, hu, ru⟩ := RelO.some_of (v := v) (o := mA n) (by rw [← l]; exact hr n)
  have J : PySem.W.InstAt s1.heap a o C (some od) := ⟨ho, hc, by unfold PySem.W.notCls; rw [hf] <;> rfl, by rw [hd]; exact hod⟩
  exact HandSPX.exc_get I1.kIn J T.ga T.gg T.exC (PySem.W.findObj_own T.hdC hno rfl (by rw [hl, hu])) (handed_of ru) ⟨v, H1, I1.tok _, ru, q⟩
end

/-! ### making one -/
section
variable {X : Cx} {k : Nat} {C fI : Addr} {fd : FuncData} {ps ks : List Str} {sp : Sp} {x : Str} {p pos : Pos} {e : Expr} {es : List Expr} {kws : List Keyword} {t tk : TA}
/-- vs: the values in the parameters' order, self left out -/
def tExv (C : Addr) (sp : Sp) (t : TA) : TE := fun σ H Q => t σ H fun vs H1 => vs.length ≤ 1000 ∧ ∀ a, H1 a = none → sp (.ref a :: vs) (upd H1 a (exo a C none)) (fun v H2 => v = .non ∧ Q (.ref a) H2) E0
theorem run_exv {pins : List (Addr × Obj)} {σ : SV} {H : Hp} {s : Shared} {Q : VK} {us ws : List Value} {kw : List (Str × Value)} {vs : List V} (T : OexC X.K C)
    (iC : PySem.W.findIn X.K (.ref C) "__init__" = some (some (.ref fI))) (tI : PySem.W.typeIn X.K (.ref fI) = some (.type "function"))
    (F : FnOk X.prog X.w X.K X.mg X.base CX0 k fI fd ps sp) (hr : Room (k + 1) X.A) (I : Inv X pins σ H s) (hz : us.length ≤ sizeLine) (r : Vals vs ws)
    (hb : ∀ (s' : Shared) (u : Value), X.K.In s'.heap → BindsTo s' fd ⟨u :: us, kw⟩ (ps.zip (u :: ws)))
    (h : ∀ a, H a = none → sp (.ref a :: vs) (upd H a (exo a C none)) (fun v H2 => v = .non ∧ Q (.ref a) H2) E0) :
    wpAny (model X.prog X.w) X.A (call (.ref C) us kw) (EP X pins σ Q) X.xe s := by
  obtain ⟨nm, q, N, bs, bm, sn, sub, ab, col, dd, k0, k1, k2, k3, k5, hC, hbm⟩ := T.cls
  obtain ⟨hp, g, dr, tok, os⟩ := s
  have up : hp.objs.size ≤ hp.objs.size + 1 := Nat.le_succ _
  have kept : ∀ b o, hp.get? b = some o → ((hp.push (PySem.W.kdv_tup us)).push (PySem.HandSPX.excO C hp.objs.size)).get? b = some o :=
    fun b o e => Heap.get?_push_of_some _ (Heap.get?_push_of_some _ e)
  have new1 : ((hp.push (PySem.W.kdv_tup us)).push (PySem.HandSPX.excO C hp.objs.size)).get? (hp.objs.size + 1) = some (PySem.HandSPX.excO C hp.objs.size) := by heap_get
  have I2 : Inv X pins σ (upd H (hp.objs.size + 1) (exo (hp.objs.size + 1) C none)) ⟨(hp.push (PySem.W.kdv_tup us)).push (PySem.HandSPX.excO C hp.objs.size), g, dr, tok, os⟩ :=
    I.laid (t' := tok) kept up (exo_ok new1)
  have want := h (hp.objs.size + 1) (I.hok.fresh up)
  have r2 : Vals (V.ref (hp.objs.size + 1) :: vs) (Value.ref (hp.objs.size + 1) :: ws) := .cons rfl r
  have call1 := F.run _ X.stack _ _ ⟨Value.ref (hp.objs.size + 1) :: us, kw⟩ (Value.ref (hp.objs.size + 1) :: ws) _ _ E0 (hr.make C us kw) (I2.env0.make C us kw) (hb _ _ I2.kIn) r2 want
  refine wpAny_call (PySem.NBX.callK PySem.F.excBase_ValueError (fun Y => PySem.HandSPX.refsVE_contains Y bm hbm) (I.kIn _ _ hC) (PySem.W.looks_findIn I.kIn iC) (fun self => PySem.W.bind_fn I.kIn self tI) hz (codeAny_mono call1 ?_))
  intro r s' hq
  match r, hq with
  | .error er, hq => exact hq.elim
  | .ok (.ret u), hq =>
    obtain ⟨v, H', J, rv, ev, q3⟩ := I2.after hq
    subst ev
    exact ⟨rv, ⟨V.ref (hp.objs.size + 1), H', J, rfl, q3⟩⟩
/-- C(e, ..) -/
theorem pe_exv (T : OexC X.K C) (iC : PySem.W.findIn X.K (.ref C) "__init__" = some (some (.ref fI))) (tI : PySem.W.typeIn X.K (.ref fI) = some (.type "function"))
    (F : FnOk X.prog X.w X.K X.mg X.base CX0 k fI fd ps sp) (hr : Room (k + 1) X.A) (hb : Binds X.K fd ps []) (hg : Gl X x) (hm : X.mg x = some (.ref C)) (ha : PA X (e :: es) t)
    (hdb : (x == ("__debug__" : Str)) = false := by decide) (he : starEach (e :: es) X.env = (false, eval e X.env) :: starEach es X.env := by rfl)
    (hpl : (backTo pos (starEach es X.env)).any (·.1) = false := by rfl) : PE X (.Call (.Name x p) (e :: es) [] pos) (tExv C sp t) := by
  constructor
  intro pins s σ H Q I h
  refine wpAny_Call_Name_kw (ld_glob I hg hm ?_ hdb)
  refine PySem.W.callWith_K (h₀ := X.base) I.ok.mod.kin T.kC (thn (ha.run pos pins s σ H _ I h) ?_) he hpl
  rintro us s1 ⟨vs, H1, I1, r, hz, q⟩
  refine ⟨I1.kIn, ?_⟩
  have hl : vs.length + 1 = ps.length := F.len _ _ _ _ (q s1.heap.objs.size (I1.hok.fresh (Nat.le_refl _)))
  have hu : us.length ≤ sizeLine := by
    rw [← r.length, sizeLine_eq]
    omega
  refine run_exv T iC tI F hr I1 hu r (fun s' u kin => ?_) q
  have b := hb s' (u :: us) kin (by rw [List.append_nil, List.length_cons, ← r.length]; exact hl)
  rw [List.append_nil] at b
  exact b
/-- C(k = e, ..): g brings the keywords' values into the parameters' order -/
theorem pe_exvK {g : List Value → List Value} {gV : List V → List V} (T : OexC X.K C) (iC : PySem.W.findIn X.K (.ref C) "__init__" = some (some (.ref fI))) (tI : PySem.W.typeIn X.K (.ref fI) = some (.type "function"))
    (F : FnOk X.prog X.w X.K X.mg X.base CX0 k fI fd ps sp) (hr : Room (k + 1) X.A)
    (hb : ∀ (s' : Shared) (u : Value) (ws : List Value), ws.length = ks.length → BindsTo s' fd ⟨[u], ks.zip ws⟩ (ps.zip (u :: g ws)))
    (hrel : ∀ {zs : List V} {ws : List Value}, zs.length = ks.length → Vals zs ws → Vals (gV zs) (g ws))
    (hg : Gl X x) (hm : X.mg x = some (.ref C)) (hkw : PK X kws tk)
    (hall : (backToKw pos (keywordEach kws X.env)).all (·.1.isSome) = true := by rfl) (hks : (backToKw pos (keywordEach kws X.env)).filterMap (·.1) = ks := by rfl)
    (hdb : (x == ("__debug__" : Str)) = false := by decide)
    (hpl : ((backTo pos (starEach [] X.env)).any (·.1) || (backToKw pos (keywordEach kws X.env)).any (·.1.isNone)) = false := by rfl) :
    PE X (.Call (.Name x p) [] kws pos) (tExv C sp fun σ H Q => tk σ H fun zs H1 => zs.length = ks.length ∧ Q (gV zs) H1) := by
  constructor
  intro pins s σ H Q I h
  refine wpAny_Call_Name_kw (ld_glob I hg hm ?_ hdb)
  refine PySem.W.callWith_KW0 (h₀ := X.base) I.ok.mod.kin T.kC hall ?_ hpl
  refine thn (hkw.run pos pins s σ H _ I h) ?_
  rintro ws s1 ⟨zs, H1, I1, r, hl, hz, q⟩
  refine ⟨I1.kIn, ?_⟩
  rw [hks]
  exact run_exv (us := []) T iC tI F hr I1 (Nat.zero_le _) (hrel hl r) (fun s' u kin => hb s' u ws (r.length.symm.trans hl)) q
/-- C(), a class without an own __init__ -/
theorem pe_exc0 {bmB : List Value} {B newId initId : String} (F : ExcBaseFacts B newId initId bmB) (q : PySem.W.excIn X.K C bmB newId = true) (gC : X.mg x = some (.ref C)) (kC : PySem.W.keepIn X.K (.ref C) = true) (hg : Gl X x)
    (hdb : (x == ("__debug__" : Str)) = false := by decide) : PE X (.Call (.Name x p) [] [] pos) (fun _ H Q => ∀ a, H a = none → Q (.ref a) (upd H a (ExO (.ref C) a))) := by
  constructor
  intro pins s σ H Q I h
  refine wpAny_Call_Name_kw (ld_glob I hg gC ?_ hdb)
  refine PySem.W.callWith_K0 I.kIn kC ?_
  show wpAny _ _ (call (.ref C) []) _ _ _
  obtain ⟨bm, N, nm, qn, bs, hdct, sn, sub, ab, col, dd, k0, k1, k2, k3, k5, mN, hC, hN, hni, T⟩ := exc_obj I.kIn q
  refine wpAny_call_exc_subT F T hC hN hni (fun h' a hm => ?_) (Nat.zero_le _)
  obtain ⟨t, ht, _, _⟩ := hm.there
  have hn : H a = none := I.hok.gone hm.new
  exact ⟨.ref a, upd H a (ExO (.ref C) a), I.laidN hm.keeps hm.new hn (exO_ok ht ⟨rfl, rfl⟩ rfl rfl rfl (show 4 < 6 by decide)), rfl, h a hn⟩
end
end NB
/-! NBe: operators of own classes: ==, != by __eq__, >> and the like, len, in, str. -/
namespace PySem.W
open PySem PySem.Calls PyProof.Rows
section
variable {prog : Program} {w : World} {A : Around} {E : Value → Shared → Prop} {s : Shared} {K : Frag} {x C L f : Addr} {h₀ : Heap} {m : Str → Option Value} {ox : Obj} {od : Option Obj} {T : String} {b : Value}
/-- an own operator, the other operand of a built-in type that the heap tells -/
theorem nb_binT {op : Operator} {fo ro rc : Option Value} {Q : Value → Shared → Prop} (F : Fr h₀ L s.heap m) (X₀ : K.In h₀) (I : InstAt s.heap x ox C od)
    (hb : Looks (model prog w) s.heap (typeOf b) (.type T)) (hc : selfFirst K C = true)
    (hs : findIn K (.ref C) (PySem.dunder op.info.2) = some (some (.ref f))) (hf : isFn K (.ref f) = true)
    (hr : findIn K (.ref C) (dunderR op.info.2) = some rc) (hp : rc = none ∨ ∃ g : Addr, rc = some (.ref g))
    (h1 : findIn K (.type T) (PySem.dunder op.info.2) = some fo) (h2 : findIn K (.type T) (dunderR op.info.2) = some ro)
    (hsub : subIn K (.type T) (.ref C) = some false)
    (h : wpAny (model prog w) A (call (.ref f) [.ref x, b]) (CmpBack Q) E s) : wpAny (model prog w) A (binaryOp op (.ref x) b) Q E s := by
  have X := X₀.keeps F.keep
  obtain ⟨cd, rest, hcd, hm⟩ := ksp_first hc
  rcases hi : op.info with ⟨sym, nm⟩
  rw [hi] at hs hr h1 h2
  dsimp only at hs hr h1 h2
  have one := ksp_try X I hs hf h
  obtain ⟨hh, g, d, tt, os⟩ := s
  have a1 : Looks (model prog w) hh (typeOf (.ref x)) (.ref C) := I.type
  have a3 : Looks (model prog w) hh (fillsNumberSlot (.ref C) nm) true := fills_K X hcd hm hs
  have a4 : Looks (model prog w) hh (fillsNumberSlot (.type T) nm) ((fo.isSome && !isSeqSlot fo) || (ro.isSome && !isSeqSlot ro)) := ksp_fillsT X h1 h2
  have a5 : Looks (model prog w) hh (isSubtype (.type T) (.ref C)) false := looks_subIn X hsub
  have a6 : Looks (model prog w) hh (numberSlotInPython (.ref C) nm) true := ksp_inPy X hs hr hp
  have a7 : Looks (model prog w) hh (numberSlotInPython (.type T) nm) false := Looks.of_pure rfl
  have a8 : Looks (model prog w) hh (typeLookup (.type T) (dunderR nm)) ro := looks_findIn X h2
  generalize ((fo.isSome && !isSeqSlot fo) || (ro.isSome && !isSeqSlot ro)) = right at a4
  have unlike : (Value.ref C == Value.type T) = false := Bool.eq_false_iff.mpr fun q => by cases beq_iff_eq.mp q
  simp only [binaryOp, hi]
  refine wpAny_holding (wpAny_bind ?_)
  unfold binaryOp1
  refine wpAny_bind (a1.at (wpAny_bind (hb.at (wpAny_bind (a3.at ?_)))))
  simp only [unlike, Bool.false_eq_true, if_false]
  cases right
  all_goals
    ksp_lk
    refine wpAny_mono one (fun r s' hr' => ?_) fun _ _ e => e
    obtain ⟨v, rfl, hq⟩ := hr'
    ksp_lk
    exact hq
theorem nb_ne_bind (self : Value) : bindSpecial (.builtin "object.__ne__") self = pure (.builtin "object.__ne__", [self]) := by
  have h1 : withoutEnding? "object.__ne__" "#opaque" = none := by decide +kernel
  have h2 : withoutEnding? "object.__ne__" "#data" = none := by decide +kernel
  have h3 : builtinKind "object.__ne__" = some .slot := by decide +kernel
  simp only [bindSpecial, typeOf, builtinType, h1, h2, h3]
  rfl
theorem nb_ne_entry : entryFor table "object.__ne__" = some Builtin.«object.__ne__» := entryFor_of_tree (by kernel_rfl)
theorem nb_ne_args (a b : Value) : argsOk "object.__ne__" ⟨[a, b], []⟩ := by unfold argsOk; kernel_rfl
theorem nb_ifB {M : Model} {name : Str} {id : String} {args : List Value} {Q : Option Value → Shared → Prop} (X : K.In s.heap) (I : InstAt s.heap x ox C od) (hs : findIn K (.ref C) name = some (some (.builtin id)))
    (hb : ∀ self, bindSpecial (.builtin id) self = pure (.builtin id, [self])) (h : wpAny M A (call (.builtin id) (.ref x :: args)) (fun v => Q (some v)) E s) : wpAny M A (callSpecialIfBound? (.ref x) name args) Q E s := by
  simp only [callSpecialIfBound?, bindSpecialIfBound?]
  refine wpAny_holding (wpAny_bind (wpAny_bind (wpAny_bind (I.type.here ((looks_findIn X hs).here ?_)))))
  refine wpAny_bind (wpAny_askSetting (wpAny_ite ?_))
  have done : wpAny M A (call (.builtin id) ([.ref x] ++ args) >>= fun v => pure (some v)) Q E s := wpAny_bind (wpAny_mono h (fun v s' h' => wpAny_pure h') fun _ _ h' => h')
  split
  · exact wpAny_bind ((Looks.of_pure (hb _)).here (wpAny_pure (by exact done)))
  · exact wpAny_tryCatch (wpAny_bind ((Looks.of_pure (hb _)).here (wpAny_pure (by exact done))))
/-- what != makes of the answer of an own == -/
def NeBack (Q : Bool → Shared → Prop) (v : Value) (s' : Shared) : Prop := match v with
  | .bool k => Q k s'
  | _ => False
/-- x != b by an own == -/
theorem nb_ne {tb : Value} {Q : Value → Shared → Prop} (hu : A.units + 1 < cLine) (F : Fr h₀ L s.heap m) (X₀ : K.In h₀) (I : InstAt s.heap x ox C od) (hb : Looks (model prog w) s.heap (typeOf b) tb) (hn : notFirst K C tb = true)
    (hne : findIn K (.ref C) "__ne__" = some (some (.builtin "object.__ne__"))) (hm : mroIn K C (.type "object") = some true) (hs : findIn K (.ref C) "__eq__" = some (some (.ref f))) (hf : isFn K (.ref f) = true)
    (h : wpAny (model prog w) A.in1 (call (.ref f) [.ref x, b]) (NeBack fun k s' => Q (.bool (!k)) s') E s) : wpAny (model prog w) A (richCompare .NotEq (.ref x) b) Q E s := by
  have X := X₀.keeps F.keep
  have inner : wpAny (model prog w) A (call (.builtin "object.__ne__") [.ref x, b]) (fun v s' => ∃ k, v = .bool k ∧ Q (.bool k) s') E s := by
    refine wpAny_call (codeAny_call_builtin (by decide +kernel) nb_ne_entry (check_slot (i := "object.__ne__") (owner := "object") (n := "__ne__") (by decide +kernel) (by decide +kernel) (I.type.andThen (looks_mroIn X hm)) (nb_ne_args _ _) ?_))
    unfold Builtin.«object.__ne__»
    refine wpAny_bind (wpAny_of_eq (a := ((Value.ref x : Value), [b])) (by first | rfl | (simp only [Builtin.slotArgs]; rfl)) ?_)
    refine wpAny_bind (wpAny_cRoomFor (by show A.units + 1 < cLine; omega) ?_)
    refine wpAny_bind (ifBound_K X I hs hf (wpAny_mono h (fun v s' hv => ?_) fun _ _ e => e))
    cases v <;> first | exact hv.elim | skip
    rename_i k
    show wpAny _ _ (truthy (.bool k) >>= fun r => ret (.bool !r)) _ _ _
    wp_walk
    exact ⟨_, rfl, hv⟩
  have one : wpAny (model prog w) A (tryCompare (.ref x) "__ne__" b) (fun r s' => ∃ k, r = some (.bool k) ∧ Q (.bool k) s') E s := by
    unfold tryCompare
    refine wpAny_bind (nb_ifB X I hne nb_ne_bind (wpAny_mono inner (fun v s' hv => ?_) fun _ _ e => e))
    obtain ⟨k, rfl, hq⟩ := hv
    exact wpAny_pure ⟨k, rfl, hq⟩
  unfold richCompare
  simp only [oneThing_ref]
  refine wpAny_holding (wpAny_bind (wpAny_cRoomFor (by omega) ?_))
  refine wpAny_bind (I.type.here (wpAny_bind (hb.here ?_)))
  split
  · rename_i q
    have e : subIn K tb (.ref C) = some false := by
      rcases Bool.or_eq_true_iff.mp hn with e | e
      · rw [beq_iff_eq.mp e] at q
        simp at q
      · exact beq_iff_eq.mp e
    refine wpAny_bind ((looks_subIn X e).here ?_)
    simp only [Bool.false_eq_true, if_false]
    refine wpAny_bind (wpAny_mono one (fun r s' z => ?_) fun _ _ e => e)
    obtain ⟨k, rfl, hq⟩ := z
    exact wpAny_pure hq
  · refine wpAny_bind (wpAny_pure ?_)
    simp only [Bool.false_eq_true, if_false]
    refine wpAny_bind (wpAny_mono one (fun r s' z => ?_) fun _ _ e => e)
    obtain ⟨k, rfl, hq⟩ := z
    exact wpAny_pure hq
end
end PySem.W
/-! NBf: the layer's rules for operators of own classes. -/
namespace NB
open PySem PySem.Spec L2
/-- a method of an own class and its promise -/
structure OwnM (X : Cx) (CX : CXT) (k : Nat) (C : Addr) (m : Str) (sp : Sp) : Prop where
  ex : ∃ (f : Addr) (fd : FuncData) (ps : List Str), FnOk X.prog X.w X.K X.mg X.base CX k f fd ps sp ∧ Binds X.K fd ps [] ∧ PySem.W.findIn X.K (.ref C) m = some (some (.ref f)) ∧ PySem.W.isFn X.K (.ref f) = true
section
variable {X : Cx} {CX : CXT} {k : Nat} {C f : Addr} {fd : FuncData} {ps : List Str} {sp : Sp} {E : XK} {pins : List (Addr × Obj)} {σ : L2.St} {H : Hp} {s : Shared} {A : Around}
theorem run_at (F : FnOk X.prog X.w X.K X.mg X.base CX k f fd ps sp) (sb : Sub X k A) (hb : Binds X.K fd ps []) (hx : Passes CX X E) (I : Inv X pins σ H s) {us : List Value} {vs : List V} {Q : VK} (r : Vals vs us) (h : sp vs H Q E) :
    wpAny (model X.prog X.w) A (call (.ref f) us) (EP X pins σ Q) X.xe s := by
  have e0 : Env0 X.prog X.w X.K X.mg X.base A X.stack s H := by
    have e := I.env0
    exact ⟨sb.fr.trans e.frames, e.mod, e.bs, e.bsz, e.funs, e.frf, e.hok, e.bare⟩
  have hl : us.length = ps.length := r.length.symm.trans (F.len _ _ _ _ h)
  have bd := hb s us I.kIn (by rw [List.append_nil]; exact hl)
  rw [List.append_nil] at bd
  refine wpAny_call (codeAny_mono (F.run A X.stack s H ⟨us, []⟩ us vs Q E sb.room e0 bd r h) ?_)
  intro r s' hq
  match r, hq with
  | .error e, hq => exact hx pins σ H s e s' I hq
  | .ok (.ret u), hq => exact I.after hq
theorem rel_ref {a : Addr} : RelV (.ref a) (Value.ref a) := rfl
theorem inst_of (I : Inv X pins σ H s) {a dx : Addr} {fs : List (Str × V)} (h : H a = some (.ins C dx fs)) : ∃ (ox : Obj) (od : Option Obj), PySem.W.InstAt s.heap a ox C od := by
  obtain ⟨mA, J, _⟩ := ins_get I.hok h
  obtain ⟨od, J, _⟩ := J.look
  exact ⟨_, _, J⟩
/-- x == y by x's own __eq__ -/
def rEqO (K : PySem.W.Frag) (C : Addr) (sp : Sp) (E : XK) : R2 := fun x y H Q => ∃ (a dx : Addr) (fs : List (Str × V)) (t : Value),
  x = .ref a ∧ H a = some (.ins C dx fs) ∧ TyX K H y t ∧ PySem.W.notFirst K C t = true ∧ sp [x, y] H (fun v H' => ∃ b, v = .bl b ∧ Q (.bl b) H') E
theorem op_eqO (M : OwnM X CX k C "__eq__" sp) (hr : Room k X.A) (hx : Passes CX X E) : OpR X (compareOp .Eq) (rEqO X.K C sp E) := by
  intro pins s σ H x y u v Q I rx ry h
  obtain ⟨f, fd, ps, F, hb, hs, hf⟩ := M.ex
  obtain ⟨a, dx, fs, t, rfl, ha, ty, nf, q⟩ := h
  obtain ⟨ox, od, J⟩ := inst_of I ha
  obtain ⟨Pt, Z, pt, _⟩ := kit_of I ry ty
  obtain ⟨m, hF⟩ := I.fr
  have rx' := rx
  cases rx'
  refine PySem.W.cmp_K (op := .Eq) (tb := t) hr.units0 hF I.ok.mod.kin J (Z.ty _ _ I.kIn pt) nf hs hf (wpAny_mono (run_at F ⟨hr, rfl⟩ hb hx I (.cons rel_ref (.cons ry .nil)) q) ?_ fun _ _ z => z)
  rintro w s' ⟨z, H', I', rz, b, rfl, qb⟩
  cases rz
  exact ⟨.bl b, H', I', rfl, qb⟩
/-- x != y -/
def rNeO (K : PySem.W.Frag) (C : Addr) (sp : Sp) (E : XK) : R2 := fun x y H Q => ∃ (a dx : Addr) (fs : List (Str × V)) (t : Value),
  x = .ref a ∧ H a = some (.ins C dx fs) ∧ TyX K H y t ∧ PySem.W.notFirst K C t = true ∧ sp [x, y] H (fun v H' => ∃ b, v = .bl b ∧ Q (.bl (!b)) H') E
theorem op_neO (M : OwnM X CX k C "__eq__" sp) (hr : Room (k + 1) X.A) (hx : Passes CX X E) (hne : PySem.W.findIn X.K (.ref C) "__ne__" = some (some (.builtin "object.__ne__"))) (hm : PySem.W.mroIn X.K C (.type "object") = some true) :
    OpR X (compareOp .NotEq) (rNeO X.K C sp E) := by
  intro pins s σ H x y u v Q I rx ry h
  obtain ⟨f, fd, ps, F, hb, hs, hf⟩ := M.ex
  obtain ⟨a, dx, fs, t, rfl, ha, ty, nf, q⟩ := h
  obtain ⟨ox, od, J⟩ := inst_of I ha
  obtain ⟨Pt, Z, pt, _⟩ := kit_of I ry ty
  obtain ⟨m, hF⟩ := I.fr
  have rx' := rx
  cases rx'
  refine PySem.W.nb_ne (tb := t) (by have := hr.units; omega) hF I.ok.mod.kin J (Z.ty _ _ I.kIn pt) nf hne hm hs hf (wpAny_mono (run_at F ⟨hr.in1, rfl⟩ hb hx I (.cons rel_ref (.cons ry .nil)) q) ?_ fun _ _ z => z)
  rintro w s' ⟨z, H', I', rz, b, rfl, qb⟩
  cases rz
  exact ⟨.bl (!b), H', I', rfl, qb⟩
/-- what the class and the operand's type must say for an own operator -/
structure BinT (K : PySem.W.Frag) (C : Addr) (op : Operator) (T : String) : Prop where
  hc : PySem.W.selfFirst K C = true
  hr : PySem.W.findIn K (.ref C) (dunderR op.info.2) = some none
  h1 : ∃ fo, PySem.W.findIn K (.type T) (PySem.dunder op.info.2) = some fo
  h2 : ∃ ro, PySem.W.findIn K (.type T) (dunderR op.info.2) = some ro
  hs : PySem.W.subIn K (.type T) (.ref C) = some false
/-- the answer is no NotImplemented -/
def rBinO (K : PySem.W.Frag) (C : Addr) (op : Operator) (sp : Sp) (E : XK) : R2 := fun x y H Q => ∃ (a dx : Addr) (fs : List (Str × V)) (T : String),
  x = .ref a ∧ H a = some (.ins C dx fs) ∧ TyX K H y (.type T) ∧ BinT K C op T ∧ sp [x, y] H (fun v H' => Q v H') E
theorem rel_noNI {v : V} {u : Value} (r : RelV v u) : u ≠ .notImplemented := by
  intro z
  subst z
  cases v
  · cases r
  · cases r
  · obtain ⟨t, e⟩ := r; cases e
  · obtain ⟨t, e⟩ := r; cases e
  · obtain ⟨t, e⟩ := r; cases e
  · obtain ⟨t, e⟩ := r; cases e
  · cases r
  · cases r
theorem op_binO {op : Operator} (M : OwnM X CX k C (PySem.dunder op.info.2) sp) (hr : Room k X.A) (hx : Passes CX X E) : OpR X (binaryOp op) (rBinO X.K C op sp E) := by
  intro pins s σ H x y u v Q I rx ry h
  obtain ⟨f, fd, ps, F, hb, hs, hf⟩ := M.ex
  obtain ⟨a, dx, fs, T, rfl, ha, ty, B, q⟩ := h
  obtain ⟨ox, od, J⟩ := inst_of I ha
  obtain ⟨Pt, Z, pt, _⟩ := kit_of I ry ty
  obtain ⟨m, hF⟩ := I.fr
  obtain ⟨fo, h1⟩ := B.h1
  obtain ⟨ro, h2⟩ := B.h2
  have rx' := rx
  cases rx'
  refine PySem.W.nb_binT hF I.ok.mod.kin J (Z.ty _ _ I.kIn pt) B.hc hs hf B.hr (.inl rfl) h1 h2 B.hs (wpAny_mono (run_at F ⟨hr, rfl⟩ hb hx I (.cons rel_ref (.cons ry .nil)) q) ?_ fun _ _ z => z)
  rintro w s' ⟨z, H', I', rz, qb⟩
  have e : EP X pins σ Q w s' := ⟨z, H', I', rz, qb⟩
  have n := rel_noNI rz
  cases w <;> first | exact e | exact absurd rfl n
/-- the other operand of the same class -/
def rBinS (K : PySem.W.Frag) (C : Addr) (sp : Sp) (E : XK) : R2 := fun x y H Q => ∃ (a dx b dy : Addr) (fs gs : List (Str × V)),
  x = .ref a ∧ H a = some (.ins C dx fs) ∧ y = .ref b ∧ H b = some (.ins C dy gs) ∧ sp [x, y] H (fun v H' => Q v H') E
/-- len(o) -/
def rLenO (C : Addr) (sp : Sp) (E : XK) : List V → Hp → VK → Prop := fun xs H Q => ∃ (a dx : Addr) (fs : List (Str × V)), xs = [.ref a] ∧ H a = some (.ins C dx fs) ∧ sp xs H (fun v H' => ∃ n : Int, v = .int n ∧ 0 ≤ n ∧ n < 2 ^ 63 ∧ Q (.int n) H') E
theorem call_lenO (M : OwnM X CX k C "__len__" sp) (hr : Room (k + 1) X.A) (hx : Passes CX X E) : CallR X (.builtin "len") (rLenO C sp E) := by
  intro pins s σ H xs us Q I r h
  obtain ⟨f, fd, ps, F, hb, hs, hf⟩ := M.ex
  obtain ⟨a, dx, fs, rfl, ha, q⟩ := h
  obtain ⟨ox, od, J⟩ := inst_of I ha
  obtain ⟨m, hF⟩ := I.fr
  obtain ⟨u, rfl, ru⟩ := vals1 r
  cases ru
  refine PySem.W.len_K hF I.ok.mod.kin J hs hf (wpAny_mono (run_at F ⟨hr.in1, rfl⟩ hb hx I (.cons rel_ref .nil) q) ?_ fun _ _ z => z)
  rintro w s' ⟨z, H', I', rz, n, rfl, n0, n1, qb⟩
  obtain ⟨t, rfl⟩ := rz
  exact ⟨⟨n0, n1⟩, .int n, H', I'.tok _, ⟨_, rfl⟩, qb⟩
/-- v in o -/
def rInO (C : Addr) (sp : Sp) (E : XK) : R2 := fun v x H Q => ∃ (a dx : Addr) (fs : List (Str × V)), x = .ref a ∧ H a = some (.ins C dx fs) ∧ sp [x, v] H (fun z H' => ∃ b, z = .bl b ∧ Q (.bl b) H') E
theorem op_inO (M : OwnM X CX k C "__contains__" sp) (hr : Room k X.A) (hx : Passes CX X E) : OpR X (compareOp .In) (rInO C sp E) := by
  intro pins s σ H x y u v Q I rx ry h
  obtain ⟨f, fd, ps, F, hb, hs, hf⟩ := M.ex
  obtain ⟨a, dx, fs, rfl, ha, q⟩ := h
  obtain ⟨ox, od, J⟩ := inst_of I ha
  obtain ⟨m, hF⟩ := I.fr
  have ry' := ry
  cases ry'
  refine PySem.W.in_K hF I.ok.mod.kin J hs hf (wpAny_mono (run_at F ⟨hr, rfl⟩ hb hx I (.cons rel_ref (.cons rx .nil)) q) ?_ fun _ _ z => z)
  rintro w s' ⟨z, H', I', rz, b, rfl, qb⟩
  cases rz
  wp_walk
  exact ⟨.bl b, H', I', rfl, qb⟩
/-- str(o) -/
def rStrO (C : Addr) (sp : Sp) (E : XK) : List V → Hp → VK → Prop := fun xs H Q => ∃ (a dx : Addr) (fs : List (Str × V)), xs = [.ref a] ∧ H a = some (.ins C dx fs) ∧ sp xs H (fun v H' => ∃ z : Str, v = .str z ∧ Q (.str z) H') E
theorem call_strO (M : OwnM X CX k C "__str__" sp) (hr : Room (k + 2) X.A) (hx : Passes CX X E) : CallR X (.type "str") (rStrO C sp E) := by
  intro pins s σ H xs us Q I r h
  obtain ⟨f, fd, ps, F, hb, hs, hf⟩ := M.ex
  obtain ⟨a, dx, fs, rfl, ha, q⟩ := h
  obtain ⟨ox, od, J⟩ := inst_of I ha
  obtain ⟨u, rfl, ru⟩ := vals1 r
  cases ru
  refine PySem.W.kso_call (by have := hr.units; show X.A.units + 1 + 1 < cLine; omega) I.kIn J hs hf (wpAny_mono (run_at F ⟨hr.in1.in1, rfl⟩ hb hx I (.cons rel_ref .nil) q) ?_ fun _ _ z => z)
  rintro w s' ⟨z, H', I', rz, y, rfl, qb⟩
  obtain ⟨t, rfl⟩ := rz
  exact ⟨.str y, H', I', ⟨_, rfl⟩, qb⟩
end
end NB
/-! NBg: try .. except X as e: y = e, the error kept behind the suite. -/
namespace NB
open PySem PySem.Spec PyProof.Rows L2
section
variable {X : Cx} {pins : List (Addr × Obj)} {σ : L2.St} {H : Hp} {s : Shared} {a : Addr}
/-- an object that was not tracked is tracked from now on -/
theorem track {u : HO} {o : Obj} (J : Inv X pins σ H s) (ha : s.heap.get? a = some o) (n : H a = none) (nL : a ≠ X.env.locals) (nc : ∀ x c, X.env.cells.lookup x = some c → c ≠ a)
    (np : ∀ p ∈ X.pn ++ pins, p.1 ≠ a) (n0 : X.s_0.heap.get? a = none) (new : ObjOk X.prog X.w (upd H a u) s.heap a u) : Inv X pins σ (upd H a u) s := by
  have old : ∀ b v, H b = some v → upd H a u b = some v := fun b v e => by
    rw [upd_ne (ne_of_none e n)]
    exact e
  have gone : ∀ b, b ≠ a → H b = none → upd H a u b = none := fun b hb e => by
    rw [upd_ne hb]
    exact e
  refine ⟨J.ok, J.os, J.bare, ⟨J.base.keep, J.base.slot, fun b ob e z hx => gone b (fun y => ?_) (J.base.free b ob e z hx), J.base.there, fun b xs e => old b _ (J.base.tups b xs e), fun b ob xs e => old b _ (J.base.frzs b ob xs e), fun b ps e => ?_⟩,
    J.loc, J.cell, gone _ nL.symm J.free, fun x c e => gone c (nc x c e) (J.freeC x c e), fun p hp => ?_, fun b v e => ?_, J.len⟩
  · rw [y, n0] at e
    cases e
  · obtain ⟨m, q⟩ := J.base.tbls b ps e
    exact ⟨m, old b _ q⟩
  · obtain ⟨h1, h2, h3, h4, h5⟩ := J.pin p hp
    exact ⟨h1, gone _ (np p hp) h2, h3, h4, h5⟩
  · by_cases hb : b = a
    · subst hb
      rw [upd_same] at e
      cases e
      exact new
    · rw [upd_ne hb] at e
      exact (J.hok b v e).stay (fun c w _ q => q) (fun c q => old c _ q) fun c xs q => old c _ q
end
/-- the wish of such a try: the error is of the class c; behind it the name j holds it -/
def wKeep (K : PySem.W.Frag) (c : Value) (n i j : Nat) (D : Ends) : WX := fun cls d σ H => PySem.W.exmOne K cls c = some true ∧ ∃ C, cls = .ref C ∧ (σ.length = n → ∀ a, H a = none → D.nx ((σ.set j (some (.ref a))).set i none) (upd H a (exk a C d)))
section
variable {X : Cx} {x n y : Str} {c : Value} {i j : Nat} {body : List Stmt} {np npy npn apos pos pos' : Pos} {tb : WX → TS}
theorem run_keep {X : Cx} {i j : Nat} {n y : Str} {npy npn apos : Pos} {σ : L2.St} {H : Hp} {s : Shared} {v : V} (hN : X.N.Nodup) (hi : X.N[i]? = some n) (hln : X.env.kindOf n = some .local) (hj : X.N[j]? = some y) (hly : X.env.kindOf y = some .local)
    (hnd : (n == ("__debug__" : Str)) = false) (hnc : (n == ("__classdict__" : Str)) = false) (hsw : swapsWith (.Name n npn) (some (.Name y npy)) apos.line X.env = pure false)
    (J : Inv X [] σ H s) (hv : σ[i]? = some (some v)) {Q : Flow → Shared → Prop} {E : Value → Shared → Prop} (hE : ∀ e s', X.xe e s' → E e s') (hQ : ∀ s', Inv X [] (σ.set j (some v)) H s' → Q .next s') :
    wpAny (model X.prog X.w) X.A (execs [.Assign [.Name y npy] (.Name n npn) apos] X.env) Q E s := by
  have one : PS X (.Assign [.Name y npy] (.Name n npn) apos) (tAsg (tVar i) (gName j)) :=
    ps_asg (pe_var hi (.inl hln) hnd hnc) (pg_name hN hj (.inl hly) (.inr hly)) hsw
  refine wpAny_mono ((pss_one one).run [] s σ H { nx := fun σ6 H6 => σ6 = σ.set j (some v) ∧ H6 = H, rt := fun _ _ => False } J ⟨v, hv, rfl, rfl⟩) (fun f s6 hsp => ?_) (fun _ _ z => ?_)
  · match f, hsp with
    | .next, ⟨σ6, H6, S6, e6, e7⟩ =>
      subst e6 e7
      exact hQ _ S6
    | .brk, ⟨_, _, _, z⟩ => exact z.elim
    | .cont, ⟨_, _, _, z⟩ => exact z.elim
    | .ret u, ⟨_, _, _, _, _, z⟩ => exact z.elim
  · exact hE _ _ z
theorem ps_try_keep (hs : X.stack = X.env :: X.outer) (hf : X.env.frame = some X.env.locals) (hex : X.ex = []) (hN : X.N.Nodup) (hi : X.N[i]? = some n) (hln : X.env.kindOf n = some .local) (hj : X.N[j]? = some y) (hly : X.env.kindOf y = some .local)
    (hij : i ≠ j) (hnd : (n == ("__debug__" : Str)) = false) (hnc : (n == ("__classdict__" : Str)) = false) (hgl : Gl X x) (hdbg : (x == ("__debug__" : Str)) = false) (hmx : X.mg x = some c)
    (hsw : ∀ a pn, swapsWith (.Name n npn) (some (.Name y npy)) apos.line (X.suite a pn).env = pure false)
    (hb : ∀ (W : WX) (pn : List (Addr × Obj)) (xe : Value → Shared → Prop), Takes (X.tr pn xe) W → PassesOwn (model X.prog X.w) X.A X.env xe → PSs (X.tr pn xe) body (tb W)) :
    PS X (.Try body [.ExceptHandler (some (.Name x np)) (some n) [.Assign [.Name y npy] (.Name n npn) apos] pos'] [] [] pos) (fun D σ H => tb (wKeep X.K c X.N.length i j D) D σ H) := by
  constructor
  intro pins s σ H D I h
  have ok := I.ok
  have frames : X.A.frames = some (X.env :: X.outer) := ok.frames.trans (congrArg some hs)
  refine wpAny_Try_except (wpAny_mono ((hb (wKeep X.K c X.N.length i j D) (X.pn ++ pins)
    (fun e s₁ => wpAny (model X.prog X.w) X.A (noteFrame e X.env)
      (fun _ s₂ => wpAny (model X.prog X.w) X.A (setFlight e none)
        (fun _ s₃ => wpAny (model X.prog X.w) X.A (handleBy e X.env [.ExceptHandler (some (.Name x np)) (some n) [.Assign [.Name y npy] (.Name n npn) apos] pos']) (SP X pins D) X.xe s₃) X.xe s₂) X.xe s₁)
    (fun u s' xx => ?_) PassesOwn.looking).run [] s σ H D (I.toTry _) h) (fun f s1 hsp => ?_) (fun e s1 he => he))
  · -- it is caught
    obtain ⟨a, B, sI, pins', σ', H', cls, d, rfl, J', nb, up, sky, na, os, ag, hyes, C, rfl, hq⟩ := xx
    have J : Inv X pins σ' H' sI := J'.ofTry ok
    rw [hs] at sky
    show wpAny (model X.prog X.w) X.A (noteFrame (.ref a) X.env) _ _ _
    refine Sky.land Zc.steady frames hf sky fun h3 fl3 up3 => ?_
    have J3 : Inv X pins σ' H' { s' with heap := h3 } := J.landed nb fl3.1 (up.trans up3) os ag
    obtain ⟨oe3, vs3, he3, hz3, hd3⟩ := fl3.there
    have nfr : a ∉ frs (X.env :: X.outer) := by
      intro hm
      obtain ⟨_, o', e', hnf⟩ := fl3.2.2.1.mem hm
      rw [he3] at e'
      cases e'
      exact hnf _ hd3
    have nL : a ≠ X.env.locals := by
      intro z
      exact nfr (List.mem_filterMap.mpr ⟨X.env, List.mem_cons_self, by rw [hf, z]⟩)
    have nF : a ∉ X.fs := by
      intro hm
      obtain ⟨e, he, q⟩ := List.mem_filterMap.mp hm
      exact nfr (List.mem_filterMap.mpr ⟨e, List.mem_cons_of_mem _ he, q⟩)
    have noB : B.get? a = none := fl3.2.1
    have noI : ∀ o, sI.heap.get? a ≠ some o := by
      intro o e
      have z := nb a o e (by rw [hs]; exact nfr)
      rw [noB] at z
      cases z
    have no0 : X.s_0.heap.get? a = none := by
      cases q : X.s_0.heap.get? a with
      | none => rfl
      | some o =>
        obtain ⟨o', e'⟩ := J.base.there a o q (by rw [hex]; exact List.not_mem_nil)
        exact absurd e' (noI o')
    have noP : ∀ p ∈ X.pn ++ pins, p.1 ≠ a := by
      intro p hp z
      have q := (J.pin p hp).1
      rw [z] at q
      exact noI _ q
    have S3 := J3.suite he3 hd3 na nL nF
    refine wpAny_handleBy_cons (codeAny_handlers_test ?_) (by intro q; cases q)
    have ty : PySem.W.Looks (model X.prog X.w) h3 (typeOf (.ref a)) (.ref C) := fun A Q E s k q => wpAny_typeOf_ref (k _ _ he3) (by rw [hz3.1]; exact q)
    have yes := PySem.W.exm_one (M := model X.prog X.w) J3.kIn ty hyes
    refine ld_glob (X := X.suite a ((a, oe3) :: (X.pn ++ pins))) S3 hgl hmx ?_ hdbg
    refine yes.here (codeAny_handlers_suite_as (HandSPX.lands_againZ fl3 fun h4 fl4 up4 => ?_))
    have J4 : Inv X pins σ' H' { s' with heap := h4 } := J.landed nb fl4.1 ((up.trans up3).trans up4) os ag
    obtain ⟨oe4, vs4, he4, hz4, hd4⟩ := fl4.there
    have S4 := J4.suite he4 hd4 na nL nF
    refine store_ok (X := X.suite a ((a, oe4) :: (X.pn ++ pins))) (v := .ref a) S4 hN hi (.inl hln) rfl (fun s5 S5 => ?_) (.inr hln)
    refine run_keep (X := X.suite a ((a, oe4) :: (X.pn ++ pins))) (v := .ref a) hN hi hln hj hly hnd hnc (hsw a ((a, oe4) :: (X.pn ++ pins))) S5 ?_ (fun _ _ z => z.elim) (fun s6 S6 => ?_)
    · rw [List.getElem?_set_self]
      rw [J4.len]
      exact (List.getElem?_eq_some_iff.mp hi).1
    obtain ⟨g1, g2, _⟩ := S6.pin (a, oe4) (List.mem_append_left _ List.mem_cons_self)
    have J6 : Inv X pins ((σ'.set i (some (.ref a))).set j (some (.ref a))) H' s6 := S6.unsuite ok
    have cellNe : ∀ x c, X.env.cells.lookup x = some c → c ≠ a := by
      intro x c e z
      obtain ⟨v, ob, hob, hdc⟩ := J6.cell x c e
      rw [z, g1] at hob
      cases hob
      rw [hd4] at hdc
      cases hdc
    have J7 := track J6 g1 na nL cellNe noP no0 (exk_ok (d := d) g1 hz4.1 hz4.2 hd4)
    refine gone_ok J7 hN hi hln fun s7 J8 => ⟨_, _, J8, ?_⟩
    have e : ((σ'.set i (some (V.ref a))).set j (some (V.ref a))).set i none = (σ'.set j (some (V.ref a))).set i none := by
      rw [List.set_comm _ _ hij, List.set_set]
    rw [e]
    exact hq J.len a na
  · match f, hsp with
    | .next, ⟨σ', H', J', q⟩ => exact wpAny_execs_nil ⟨σ', H', J'.ofTry ok, q⟩
    | .brk, ⟨σ', H', J', q⟩ => exact ⟨σ', H', J'.ofTry ok, q⟩
    | .cont, ⟨σ', H', J', q⟩ => exact ⟨σ', H', J'.ofTry ok, q⟩
    | .ret u, ⟨v, σ', H', J', r, q⟩ => exact ⟨v, σ', H', J'.ofTry ok, r, q⟩
end
end NB
/-! NBi: list(o), o of an own class whose __iter__ gives a tuple's iterator and that has an own __len__. -/
namespace NB
open PySem PySem.Spec PyProof.Rows L2
/-- at it: an iterator over the tuple at t, at its start -/
def TItO (t it : Addr) : HO := .ext fun h => h.IsTupleIter it t 0
theorem tItO_ok {P : Program} {w : World} {H : Hp} {h : Heap} {t it : Addr} (e : h.IsTupleIter it t 0) : ObjOk P w H h it (TItO t it) := by
  obtain ⟨o, ho, hc, hd⟩ := e
  exact ⟨⟨o, ho, hc, hd⟩, ⟨o, ho⟩, fun h1 h2 ⟨o', ho', r⟩ k => ⟨o', k _ ho', r⟩⟩
section
variable {X : Cx} {pins : List (Addr × Obj)} {σ : L2.St} {H : Hp} {s : Shared}
/-- iter(t), t a tuple -/
def rIterT (K : PySem.W.Frag) : List V → Hp → VK → Prop := fun xs H Q => ∃ (t : Addr) (zs : List V), xs = [.ref t] ∧ SqT K H t zs ∧ ∀ it, H it = none → Q (.ref it) (upd H it (TItO t it))
theorem tup_of {s : Shared} {t : Addr} {items : Array Value} (h : IsTup s.heap t items) : s.heap.IsTuple t items := by
  obtain ⟨o, ho, hc, hd⟩ := h
  exact ⟨o, ho, hc, hd⟩
theorem call_iterT : CallR X (.builtin "iter") (rIterT X.K) := by
  intro pins s σ H xs us Q I r h
  obtain ⟨l, zs, rfl, hq, q⟩ := h
  obtain rfl := Vals.ref1 r
  obtain ⟨its, rv, ht, hz⟩ := I.tuple hq
  refine Calls.call_function_entry (by decide +kernel) (by decide +kernel) PySem.W.kdk_entry_iter (PySem.W.kdk_args_iter _) ?_
  unfold Builtin.«iter»
  refine wpAny_bind (m := someArgs "iter" 1 2 _) (wpAny_of_eq (a := [Value.ref l]) (by first | rfl | kernel_rfl!) ?_)
  show wpAny _ _ (pyIter (.ref l) >>= _) _ _ _
  refine wpAny_bind (wpAny_pyIter_tuple (tup_of ht) ?_)
  refine wpAny_pure ⟨_, rfl, ?_⟩
  exact ⟨.ref s.heap.objs.size, _, I.laid (t' := s.toks) (fun b u e => Heap.get?_push_of_some _ e) (Nat.le_refl _) (tItO_ok ⟨_, Heap.get?_push_size _ rfl, rfl, rfl⟩), rfl, q _ (I.hok.fresh (Nat.le_refl _))⟩
/-- an untracked record at it has turned, the list at q has been filled -/
theorem inv_filled {it q : Addr} {xs ys : List V} {h' : Heap} {t' : Nat} (J : Inv X pins σ H s) (k : ∀ b o, b ≠ it → b ≠ q → s.heap.get? b = some o → h'.get? b = some o) (n : H it = none) (nL : it ≠ X.env.locals)
    (nc : ∀ x c, X.env.cells.lookup x = some c → c ≠ it) (np : ∀ p ∈ X.pn ++ pins, p.1 ≠ it) (n0 : X.s_0.heap.get? it = none) (hq : H q = some (.lst xs)) (new : ObjOk X.prog X.w (upd H q (.lst ys)) h' q (.lst ys)) :
    Inv X pins σ (upd H q (.lst ys)) { s with heap := h', toks := t' } := by
  have nq : ∀ b, H b = none → b ≠ q := fun b e z => by
    rw [z, hq] at e
    cases e
  have n0q : ∀ b o, X.s_0.heap.get? b = some o → b ≠ it := fun b o e z => by
    rw [z, n0] at e
    cases e
  have other : ∀ b v, H b = some v → (∀ zs, v ≠ .lst zs) → upd H q (.lst ys) b = some v := fun b v e z => by
    have hb : b ≠ q := fun y => by
      rw [y, hq] at e
      exact z _ (Option.some.inj e).symm
    rw [upd_ne hb]
    exact e
  have nsK : ∀ {b : Addr} {o : Obj}, H b = none → b ≠ it → s.heap.get? b = some o → h'.get? b = some o := fun {b o} e1 e2 e => k b o e2 (nq b e1) e
  obtain ⟨_, its, c, _, eq⟩ := new
  refine ⟨J.ok, J.os, J.bare, ⟨fun b o e z f x => ?_, fun b o e z f x => ?_, fun b o e z x => ?_, fun b o e x => ?_, fun b zs e => other b _ (J.base.tups b zs e) (fun _ y => nomatch y), fun b o u e => other b _ (J.base.frzs b o u e) (fun _ y => nomatch y), fun b ps e => ?_⟩,
    ?_, fun x c e => ?_, ?_, fun x c e => ?_, fun p hp => ?_, fun b v e => ?_, J.len⟩
  · exact nsK (J.base.free b o e z x) (n0q b o e) (J.base.keep b o e z f x)
  · obtain ⟨sl, y⟩ := J.base.slot b o e z f x
    exact ⟨sl, nsK (J.base.free b o e z x) (n0q b o e) y⟩
  · have y := J.base.free b o e z x
    rw [upd_ne (nq b y)]
    exact y
  · obtain ⟨o', y⟩ := J.base.there b o e x
    by_cases hb : b = q
    · rw [hb]
      exact ⟨_, eq⟩
    · exact ⟨o', k b o' (n0q b o e) hb y⟩
  · obtain ⟨m, y⟩ := J.base.tbls b ps e
    exact ⟨m, other b _ y (fun _ y => nomatch y)⟩
  · obtain ⟨m, hns, hl⟩ := J.loc
    obtain ⟨o, es, ep, ho, r⟩ := hns
    refine ⟨m, ⟨o, es, ep, nsK J.free nL.symm ho, r⟩, fun i x v e1 e2 e3 => ?_⟩
    obtain ⟨u, ru, lk⟩ := hl i x v e1 e2 e3
    refine ⟨u, ru, ?_⟩
    rcases lk with ⟨k1, k2⟩ | ⟨k1, c, k2, k3⟩
    · exact .inl ⟨k1, k2⟩
    · refine .inr ⟨k1, c, k2, ?_⟩
      obtain ⟨oc, ho, r⟩ := k3
      exact ⟨oc, nsK (J.freeC x c k2) (nc x c k2) ho, r⟩
  · obtain ⟨v, oc, ho, r⟩ := J.cell x c e
    exact ⟨v, oc, nsK (J.freeC x c e) (nc x c e) ho, r⟩
  · rw [upd_ne (nq _ J.free)]
    exact J.free
  · have y := J.freeC x c e
    rw [upd_ne (nq _ y)]
    exact y
  · obtain ⟨h1, h2, h3, h4, h5⟩ := J.pin p hp
    exact ⟨nsK h2 (np p hp) h1, by rw [upd_ne (nq _ h2)]; exact h2, h3, h4, h5⟩
  · by_cases hb : b = q
    · subst hb
      rw [upd_same] at e
      cases e
      exact ⟨by assumption, its, c, by assumption, eq⟩
    · rw [upd_ne hb] at e
      have ni : b ≠ it := fun z => by
        rw [z, n] at e
        cases e
      refine (J.hok b v e).stay (fun d u hd y => ?_) (fun d y => other d _ y fun _ z => nomatch z) (fun d zs y => other d _ y fun _ z => nomatch z)
      rcases hd with z | z
      · rw [z] at y ⊢
        exact k b u ni hb y
      · refine k d u (fun z2 => ?_) (fun z2 => ?_) y
        · rw [z2, n] at z
          cases z
        · rw [z2, hq] at z
          cases z
end
end NB
/-! NBj: list(o), the rule. -/
namespace NB
open PySem PySem.Spec PyProof.Rows L2 ItX
section
variable {X : Cx} {pins : List (Addr × Obj)} {σ : L2.St} {H : Hp} {s : Shared}
/-- the hint of an own __len__ -/
theorem len_hint {M : Model} {A : Around} {E : Value → Shared → Prop} {Q : Bool → Shared → Prop} {K : PySem.W.Frag} {a C f : Addr} {ox : Obj} {od : Option Obj} (hK : K.In s.heap) (J : PySem.W.InstAt s.heap a ox C od) (hl : PySem.W.findIn K (.ref C) "__len__" = some (some (.ref f)))
    (h : wpAny M A (call (.builtin "len") [.ref a]) (fun v s' => ∃ (n : Nat) (t : Tok), v = .int (n : Int) t ∧ n ≤ 1000 ∧ Q (((n : Int)) != 0) s') (fun e s' => False) s) :
    wpAny M A (Builtin.List.listLengthHint (.ref a)) Q E s := by
  unfold Builtin.List.listLengthHint
  refine wpAny_bind (wpAny_bind (J.type.here ((PySem.W.looks_findIn hK hl).here ?_)))
  refine PySem.W.KFB.if_not rfl ?_
  refine wpAny_ite_split (fun _ => ?_) (fun z => absurd rfl z)
  refine wpAny_bind (wpAny_rule (wpAny_bind (wpAny_attempt (wpAny_mono h (fun v s' hv => ?_) fun _ _ z => z.elim))))
  obtain ⟨n, t, rfl, hn, q⟩ := hv
  refine wpAny_bind (m := asInt? (.int n t)) (wpAny_pure ?_)
  dsimp only
  refine PySem.W.KFB.if_not ?_ (wpAny_pure q)
  show decide ((n : Int).toNat > sizeLine) = false
  rw [decide_eq_false]
  rw [sizeLine_eq]
  omega
theorem run_at0 {k : Nat} {f : Addr} {fd : FuncData} {ps : List Str} {sp : Sp} {A : Around} {E : XK} (F : FnOk X.prog X.w X.K X.mg X.base CX0 k f fd ps sp) (sb : Sub X k A) (hb : Binds X.K fd ps []) (I : Inv X pins σ H s) {us : List Value} {vs : List V} {Q : VK} (r : Vals vs us) (h : sp vs H Q E) :
    wpAny (model X.prog X.w) A (call (.ref f) us) (EP X pins σ Q) (fun _ _ => False) s := by
  have e0 : Env0 X.prog X.w X.K X.mg X.base A X.stack s H := by
    have e := I.env0
    exact ⟨sb.fr.trans e.frames, e.mod, e.bs, e.bsz, e.funs, e.frf, e.hok, e.bare⟩
  have hl : us.length = ps.length := r.length.symm.trans (F.len _ _ _ _ h)
  have bd := hb s us I.kIn (by rw [List.append_nil]; exact hl)
  rw [List.append_nil] at bd
  refine wpAny_call (codeAny_mono (F.run A X.stack s H ⟨us, []⟩ us vs Q E sb.room e0 bd r h) ?_)
  intro r s' hq
  match r, hq with
  | .ok (.ret u), hq => exact I.after hq
/-- list(o) -/
def rListI (C : Addr) (spI spL : Sp) : List V → Hp → VK → Prop := fun xs H Q => ∃ (a dx t : Addr) (fs : List (Str × V)) (zs : List V), xs = [.ref a] ∧ H a = some (.ins C dx fs) ∧ H t = some (.tup zs) ∧ 1 ≤ zs.length ∧ zs.length ≤ 1000 ∧
  ∀ q, H q = none → spI [.ref a] (upd H q (.lst [])) (fun v H2 => ∃ it, v = .ref it ∧ upd H q (.lst []) it = none ∧ H2 = upd (upd H q (.lst [])) it (TItO t it) ∧ spL [.ref a] H2 (fun v H3 => v = .int zs.length ∧ H3 = H2) E0) E0 ∧ Q (.ref q) (upd H q (.lst zs))
variable {CX : CXT} {k : Nat} {C : Addr} {spI spL : Sp}
theorem extend_own {a dx q t : Addr} {fs : List (Str × V)} {zs : List V} {A1 : Around} {Rs : Result → Shared → Prop} (MI : OwnM X CX k C "__iter__" spI) (ML : OwnM X CX0 k C "__len__" spL) (hr : Sub X (k + 1) A1.in1) (hx : Passes CX X E0) (hh : A1.handled = none) (hex : X.ex = [])
    (I : Inv X pins σ H s) (ha : H a = some (.ins C dx fs)) (ht : H t = some (.tup zs)) (hz : zs.length ≤ 1000) (hz1 : 1 ≤ zs.length) (hq : H q = some (.lst []))
    (h : spI [.ref a] H (fun v H2 => ∃ it, v = .ref it ∧ H it = none ∧ H2 = upd H it (TItO t it) ∧ spL [.ref a] H2 (fun v H3 => v = .int zs.length ∧ H3 = H2) E0) E0)
    (hdone : ∀ s', Inv X pins σ (upd H q (.lst zs)) s' → Rs (.ok (.ret .none)) s') (herr : ∀ e s, X.xe e s → Rs (.error e) s) :
    wpAny (model X.prog X.w) A1.in1 (Builtin.List.listExtendWith (.ref q) (.ref a) .none)
      (fun fin s' => match fin with | .done f => Rs (.ok f) s' | .again c' => c'.quiet = true ∧ codeAny (model X.prog X.w) A1 c' Rs s') (fun e s' => Rs (.error e) s') s := by
  have hne : q ≠ a := ne_of hq ha (fun z => nomatch z)
  obtain ⟨ox, od, J⟩ := inst_of I ha
  obtain ⟨m0, hF⟩ := I.fr
  obtain ⟨fI, fdI, psI, FI, bI, sI, iI⟩ := MI.ex
  obtain ⟨fL, fdL, psL, FL, bL, sL, iL⟩ := ML.ex
  unfold Builtin.List.listExtendWith
  refine wpAny_bind (J.type.here ?_)
  have h1 : Builtin.List.listSameRef (.ref q) (.ref a) = false := by simp [Builtin.List.listSameRef, hne]
  have h2 : (Value.ref C == Value.type "list") = false := rfl
  have h3 : (Value.ref C == Value.type "tuple") = false := rfl
  simp only [h1, h2, h3, Bool.or_false, Bool.false_eq_true, if_false]
  refine wpAny_bind (PySem.W.owit_iter hF I.ok.mod.kin J sI iI ?_)
  have e0 : Env0 X.prog X.w X.K X.mg X.base A1.in1 X.stack s H := by
    have e := I.env0
    exact ⟨by rw [hr.fr]; exact e.frames, e.mod, e.bs, e.bsz, e.funs, e.frf, e.hok, e.bare⟩
  have hl := FI.len _ _ _ _ h
  have bd := bI s [.ref a] I.kIn (by simpa using hl)
  rw [List.append_nil] at bd
  refine wpAny_call (codeAny_mono (FI.run A1.in1 X.stack s H ⟨[.ref a], []⟩ [.ref a] [.ref a] _ E0 (hr.room.mono (Nat.le_succ _)) e0 bd (.cons rel_ref .nil) h) fun r s' hq' => ?_)
  match r, hq' with
  | .error e, hq' => exact herr e s' (hx pins σ H s e s' I hq')
  | .ok (.ret u), ⟨v, H2, os, bare, un, hok, rv, it, ev, hit, eH, hsl⟩ =>
    subst ev
    obtain rfl : u = Value.ref it := rv
    have nit : s.heap.get? it = none := by
      cases e : s.heap.get? it with
      | none => rfl
      | some o =>
        have z := un.free it o e hit (fun z => nomatch z)
        rw [eH, upd_same] at z
        cases z
    obtain ⟨_, _, I2, _, _, e4⟩ := I.after (Q := fun v2 H3 => v2 = .ref it ∧ H3 = H2) ⟨.ref it, H2, os, bare, un, hok, rel_ref, rfl, rfl⟩
    rw [e4] at I2
    have eIt : H2 it = some (TItO t it) := by rw [eH]; exact upd_same
    have hti : s'.heap.IsTupleIter it t 0 := (I2.hok it _ eIt).1
    have ha2 : H2 a = some (.ins C dx fs) := by rw [eH, upd_ne (ne_of_none ha hit)]; exact ha
    have hq2 : H2 q = some (.lst []) := by rw [eH, upd_ne (ne_of_none hq hit)]; exact hq
    have ht2 : H2 t = some (.tup zs) := by rw [eH, upd_ne (ne_of_none ht hit)]; exact ht
    obtain ⟨ox2, od2, J2⟩ := inst_of I2 ha2
    obtain ⟨m2, hF2⟩ := I2.fr
    unfold PySem.W.OwitIt
    refine wpAny_specialOf hti.typeIs F.slot_tuple_iterator_next.lookup ?_
    show wpAny _ _ _ _ _ _
    refine wpAny_bind (wpAny_holding (len_hint I2.kIn J2 sL ?_))
    refine PySem.W.len_K hF2 I2.ok.mod.kin J2 sL iL (wpAny_mono (run_at0 FL hr.in1 bL I2 (.cons rel_ref .nil) hsl) ?_ fun e s3 z => z)
    rintro w s3 ⟨z, H3, I3, rz, rfl, e5⟩
    rw [e5] at I3
    obtain ⟨tk, rfl⟩ := rz
    refine ⟨⟨by omega, by omega⟩, zs.length, _, rfl, hz, ?_⟩
    have I4 : Inv X pins σ H2 { s3 with toks := s3.toks + 1 } := I3.tok _
    have hb : (((zs.length : Nat) : Int) != 0) = true := bne_iff_ne.mpr (by omega)
    rw [hb]
    refine wpAny_ite_split (fun _ => ?_) (fun z => absurd rfl z)
    refine wpAny_bind (wpAny_rule ?_)
    refine wpAny_bind ?_
    show wpAny _ _ (updateSeq q (·.push .none) >>= fun _ => updateSeq q (·.pop)) _ _ _
    obtain ⟨z, its, c0, r3, hl3, e3⟩ := I4.lstM hq2
    cases r3
    refine wpAny_bind (wpAny_updateSeq e3 rfl ?_)
    have I5 := I4.lset (f := (·.push Value.none)) (its' := [Value.none]) (ys := [.non]) (t' := s3.toks + 1) hq2 e3 (by simp) (.cons rfl .nil) (by rw [List.length_singleton, sizeLine_eq]; decide)
    obtain ⟨z4, its4, k4, r4, hl4, e4⟩ := I5.lstM upd_same
    obtain ⟨u4, rfl, ru4⟩ := r4.one
    refine wpAny_updateSeq e4 rfl ?_ (by show 1 ≤ sizeLine; rw [sizeLine_eq]; decide) (by show 0 ≤ sizeLine + 1; exact Nat.zero_le _)
    have I6 := I5.lset (f := (·.pop)) (its := [u4]) (its' := []) (ys := []) (t' := s3.toks + 1) upd_same e4 (by rfl) .nil (Nat.zero_le _)
    rw [upd_upd] at I6
    have hH : upd H2 q (.lst []) = H2 := by
      funext b
      by_cases hb : b = q
      · rw [hb, upd_same, hq2]
      · rw [upd_ne hb]
    rw [hH] at I6
    refine wpAny_pure ⟨plainId_quiet PySem.F.plain_extend_loop _, ?_⟩
    have nL : it ≠ X.env.locals := fun z => by
      have y := I6.free
      rw [← z, eIt] at y
      cases y
    have nc : ∀ x c, X.env.cells.lookup x = some c → c ≠ it := fun x c e z => by
      have y := I6.freeC x c e
      rw [z, eIt] at y
      cases y
    have np : ∀ p ∈ X.pn ++ pins, p.1 ≠ it := fun p hp z => by
      have y := (I6.pin p hp).2.1
      rw [z, eIt] at y
      cases y
    have n0 : X.s_0.heap.get? it = none := by
      cases e : X.s_0.heap.get? it with
      | none => rfl
      | some o =>
        obtain ⟨o', y⟩ := I.base.there it o e (by rw [hex]; exact List.not_mem_nil)
        rw [nit] at y
        cases y
    have ntt : t ≠ it := ne_of_none ht hit
    have ntq : q ≠ it := ne_of_none hq hit
    have nqt : q ≠ t := ne_of hq ht (fun z => nomatch z)
    obtain ⟨items, rv6, ht6, _⟩ := I6.tuple (a := t) (xs := zs) (.inl (.inl ht2))
    have hti6 := (I6.hok it _ eIt).1
    obtain ⟨z6, its6, c6, r6, hl6, e6⟩ := I6.lstM hq2
    cases r6
    have hD : dropH H2 it = H := by rw [eH]; exact dropH_upd hit
    have J6 := inv_drop I6 eIt
    rw [hD] at J6
    have W := (Walks.tuple (prog := X.prog) (w := X.w) (A := A1.in1) hh it t ntt items.toArray).toS
    have lz : zs.length = items.length := rv6.length
    refine codeAny_extend_loopS W (by rw [List.size_toArray, ← lz, sizeLine_eq]; omega) q (by simp [ntq, nqt]) .none items.toArray.size 0 _ _ _ rfl (Nat.zero_le _) ⟨hti6, tup_of ht6⟩ e6 (ItemsOf.nil _) (fun s' acc' c' hm hS' hacc => ?_)
    refine hdone s' ?_
    obtain ⟨h7, g7, d7, t7, o7⟩ := s'
    obtain rfl := hm.gens
    obtain rfl := hm.drawn
    obtain rfl := hm.os
    refine inv_filled (t' := t7) J6 (fun b o n1 n2 e => hm.heap b o (by simp [n1, n2]) e) hit nL nc np n0 hq ⟨by rw [sizeLine_eq]; omega, acc'.toList, c', ?_, by rw [Array.toArray_toList]; exact hS'⟩
    have ea : acc'.toList = items := by
      refine List.ext_getElem? fun i => ?_
      by_cases hi : i < acc'.size
      · have y := hacc.2 i acc'[i] (Array.getElem?_eq_getElem hi)
        rw [Array.getElem?_toList, Array.getElem?_eq_getElem hi]
        have y2 : items.toArray[i]? = some acc'[i] := y
        rw [List.getElem?_toArray] at y2
        exact y2.symm
      · have y : acc'.size = items.toArray.size := hacc.1
        have y1 : acc'.size = items.length := y.trans List.size_toArray
        have y2 : items.length ≤ i := by rw [← y1]; exact Nat.le_of_not_lt hi
        rw [List.getElem?_eq_none (by rw [Array.length_toList]; exact Nat.le_of_not_lt hi), List.getElem?_eq_none y2]
    rw [ea]
    exact rv6
theorem call_listI (MI : OwnM X CX k C "__iter__" spI) (ML : OwnM X CX0 k C "__len__" spL) (hr : Room (k + 3) X.A) (hx : Passes CX X E0) (hc : X.calm = true) (hex : X.ex = []) : CallR X (.type "list") (rListI C spI spL) := by
  intro pins s σ H xs us Q I rv h
  obtain ⟨a, dx, t, fs, zs, rfl, ha, ht, hz1, hz, hq⟩ := h
  obtain ⟨u, rfl, ru⟩ := rv.one
  cases ru
  have sb : Sub X (k + 1) X.A.in1.in1 := (Sub.in1 (Sub.in1 (⟨hr, rfl⟩ : Sub X (k + 3) X.A)))
  refine callType_codes (Q₁ := fun obj s₁ => obj = .ref s.heap.objs.size ∧ s₁ = { s with heap := s.heap.push { cls := .type "list", data := .seq #[] } }) PySem.F.called_list (PySem.F.typeCall_list_1 _) PySem.F.entry_list_init
    (code_list_new _ ⟨rfl, rfl⟩) fun obj s₁ h₁ => ?_
  obtain ⟨rfl, rfl⟩ := h₁
  have hS : (s.heap.push { cls := .type "list", data := .seq #[] }).get? s.heap.objs.size = some { cls := .type "list", data := .seq #[] } := Heap.get?_push_size _ rfl
  refine ⟨⟨_, hS, rfl⟩, PySem.F.args_list_init_2 _ _, ?_⟩
  have fr : H s.heap.objs.size = none := I.hok.fresh (Nat.le_refl _)
  obtain ⟨hsp, hQ⟩ := hq _ fr
  have I1 : Inv X pins σ (upd H s.heap.objs.size (.lst [])) { s with heap := s.heap.push { cls := .type "list", data := .seq #[] } } := I.lnew (its := []) (t' := s.toks) .nil (Nat.zero_le _)
  show wpAny _ _ (do let old ← Builtin.List.listItems (.ref s.heap.objs.size); Builtin.List.listUpdate (.ref s.heap.objs.size) (fun _ => #[]); letGo old.toList.reverse; Builtin.List.listExtendWith (.ref s.heap.objs.size) (.ref a) .none) _ _ _
  refine wpAny_bind ?_
  unfold Builtin.List.listItems
  refine wpAny_bind (wpAny_seqItems hS rfl (wpAny_pure ?_))
  show wpAny _ _ (updateSeq s.heap.objs.size (fun _ => #[]) >>= fun _ => letGo (#[] : Array Value).toList.reverse >>= fun _ => Builtin.List.listExtendWith (.ref s.heap.objs.size) (.ref a) .none) _ _ _
  refine wpAny_bind (wpAny_updateSeq hS rfl ?_)
  have I2 := I1.lset (f := fun _ => #[]) (its := []) (its' := []) (ys := []) (t' := s.toks) upd_same hS rfl .nil (Nat.zero_le _)
  rw [upd_upd] at I2
  refine wpAny_bind (wpAny_letGo ?_)
  have ha2 : upd H s.heap.objs.size (.lst []) a = some (.ins C dx fs) := by rw [upd_ne (ne_of_none ha fr)]; exact ha
  have ht2 : upd H s.heap.objs.size (.lst []) t = some (.tup zs) := by rw [upd_ne (ne_of_none ht fr)]; exact ht
  exact extend_own (A1 := X.A.in1) (Rs := wants (fun r s₂ => r = .none ∧ EP X pins σ Q (.ref s.heap.objs.size) s₂) X.xe) MI ML sb hx (I.ok.hd hc) hex I2 ha2 ht2 hz hz1 upd_same hsp
    (fun s' I' => ⟨rfl, .ref s.heap.objs.size, _, I', rfl, by rw [upd_upd]; exact hQ⟩) (fun e s' he => he)
end
end NB
/-! NBk: own operators in place (without an own in-place method), and with an operand of the same class. -/
namespace PySem.W
open PySem PySem.Calls PyProof.Rows
section
variable {prog : Program} {w : World} {A : Around} {E : Value → Shared → Prop} {s : Shared} {K : Frag} {x C L f : Addr} {h₀ : Heap} {m : Str → Option Value} {ox : Obj} {od : Option Obj} {T : String} {b : Value}
theorem nb_fillsI0 {M : Model} {h : Heap} {nm : String} {cd : ClassData} {add : Bool} (X : K.In h) (hc : clsIn K C = some cd) (hm : cd.mro = [.ref C, .type "object"]) (hs : findIn K (.ref C) (dunderI nm) = some none) (ho : findIn K (.type "object") (dunderI nm) = some none) :
    Looks M h (fillsInplaceSlot (.ref C) nm add) false := by
  intro A Q E s k q
  have Lm : Looks M h (mroOf (.ref C)) cd.mro := (looks_clsIn X hc).andThen (f := fun cd => pure cd.mro) .now
  have Lm' := Lm.keeps k
  obtain ⟨hh, g, d, tt, os⟩ := s
  have X' : K.In hh := X.keeps k
  have L1 : Looks M hh (typeLookup (.ref C) (dunderI nm)) none := looks_findIn X' hs
  have L2 : Looks M hh (typeLookup (.type "object") (dunderI nm)) none := looks_findIn X' ho
  unfold fillsInplaceSlot
  refine wpAny_bind (Lm'.at ?_)
  rw [hm, List.anyM_cons]
  refine wpAny_bind ?_
  refine wpAny_bind (L1.at (wpAny_pure ?_))
  rw [if_neg (by decide), List.anyM_cons]
  refine wpAny_bind (wpAny_bind (L2.at (wpAny_pure ?_)))
  rw [if_neg (by decide)]
  exact wpAny_pure q
theorem nb_bin1 {op : Operator} {fo ro rc : Option Value} {Q : Value → Shared → Prop} (F : Fr h₀ L s.heap m) (X₀ : K.In h₀) (I : InstAt s.heap x ox C od)
    (hb : Looks (model prog w) s.heap (typeOf b) (.type T)) (hc : selfFirst K C = true)
    (hs : findIn K (.ref C) (PySem.dunder op.info.2) = some (some (.ref f))) (hf : isFn K (.ref f) = true)
    (hr : findIn K (.ref C) (dunderR op.info.2) = some rc) (hp : rc = none ∨ ∃ g : Addr, rc = some (.ref g))
    (h1 : findIn K (.type T) (PySem.dunder op.info.2) = some fo) (h2 : findIn K (.type T) (dunderR op.info.2) = some ro)
    (hsub : subIn K (.type T) (.ref C) = some false)
    (h : wpAny (model prog w) A (call (.ref f) [.ref x, b]) (CmpBack Q) E s) : wpAny (model prog w) A (binaryOp1 op.info.2 (.ref x) b) (fun r s' => ∃ v, r = some v ∧ Q v s') E s := by
  have X := X₀.keeps F.keep
  obtain ⟨cd, rest, hcd, hm⟩ := ksp_first hc
  rcases hi : op.info with ⟨sym, nm⟩
  rw [hi] at hs hr h1 h2
  dsimp only at hs hr h1 h2
  have one := ksp_try X I hs hf h
  obtain ⟨hh, g, d, tt, os⟩ := s
  have a1 : Looks (model prog w) hh (typeOf (.ref x)) (.ref C) := I.type
  have a3 : Looks (model prog w) hh (fillsNumberSlot (.ref C) nm) true := fills_K X hcd hm hs
  have a4 : Looks (model prog w) hh (fillsNumberSlot (.type T) nm) ((fo.isSome && !isSeqSlot fo) || (ro.isSome && !isSeqSlot ro)) := ksp_fillsT X h1 h2
  have a5 : Looks (model prog w) hh (isSubtype (.type T) (.ref C)) false := looks_subIn X hsub
  have a6 : Looks (model prog w) hh (numberSlotInPython (.ref C) nm) true := ksp_inPy X hs hr hp
  have a7 : Looks (model prog w) hh (numberSlotInPython (.type T) nm) false := Looks.of_pure rfl
  have a8 : Looks (model prog w) hh (typeLookup (.type T) (dunderR nm)) ro := looks_findIn X h2
  generalize ((fo.isSome && !isSeqSlot fo) || (ro.isSome && !isSeqSlot ro)) = right at a4
  have unlike : (Value.ref C == Value.type T) = false := Bool.eq_false_iff.mpr fun q => by cases beq_iff_eq.mp q
  dsimp only
  unfold binaryOp1
  refine wpAny_bind (a1.at (wpAny_bind (hb.at (wpAny_bind (a3.at ?_)))))
  simp only [unlike, Bool.false_eq_true, if_false]
  cases right
  all_goals
    ksp_lk
    refine wpAny_mono one (fun r s' hr' => ?_) fun _ _ e => e
    obtain ⟨v, rfl, hq⟩ := hr'
    ksp_lk
    exact ⟨v, rfl, hq⟩
/-- x op= b, no own in-place method -/
theorem nb_inT {op : Operator} {cd : ClassData} {fo ro rc : Option Value} {Q : Value → Shared → Prop} (F : Fr h₀ L s.heap m) (X₀ : K.In h₀) (I : InstAt s.heap x ox C od)
    (hb : Looks (model prog w) s.heap (typeOf b) (.type T)) (hc : selfFirst K C = true) (hcd : clsIn K C = some cd) (hm : cd.mro = [.ref C, .type "object"]) (hi : findIn K (.ref C) (dunderI op.info.2) = some none) (ho : findIn K (.type "object") (dunderI op.info.2) = some none)
    (hs : findIn K (.ref C) (PySem.dunder op.info.2) = some (some (.ref f))) (hf : isFn K (.ref f) = true)
    (hr : findIn K (.ref C) (dunderR op.info.2) = some rc) (hp : rc = none ∨ ∃ g : Addr, rc = some (.ref g))
    (h1 : findIn K (.type T) (PySem.dunder op.info.2) = some fo) (h2 : findIn K (.type T) (dunderR op.info.2) = some ro)
    (hsub : subIn K (.type T) (.ref C) = some false)
    (h : wpAny (model prog w) A (call (.ref f) [.ref x, b]) (CmpBack Q) E s) : wpAny (model prog w) A (inplaceOp op (.ref x) b) Q E s := by
  have X := X₀.keeps F.keep
  unfold inplaceOp
  refine wpAny_holding (wpAny_bind (I.type.here (wpAny_bind ((nb_fillsI0 X hcd hm hi ho).here ?_))))
  rw [if_neg (by decide)]
  refine wpAny_bind (wpAny_mono (nb_bin1 F X₀ I hb hc hs hf hr hp h1 h2 hsub h) (fun r s' hq => ?_) fun _ _ e => e)
  obtain ⟨v, rfl, hq⟩ := hq
  exact wpAny_pure hq
end
end PySem.W
namespace NB
open PySem PySem.Spec L2
section
variable {X : Cx} {CX : CXT} {k : Nat} {C f : Addr} {fd : FuncData} {ps : List Str} {sp : Sp} {E : XK} {pins : List (Addr × Obj)} {σ : L2.St} {H : Hp} {s : Shared} {A : Around}
/-- what the class must say for an operator in place -/
structure InT (K : PySem.W.Frag) (C : Addr) (op : Operator) : Prop where
  cd : ∃ cd, PySem.W.clsIn K C = some cd ∧ cd.mro = [.ref C, .type "object"]
  hi : PySem.W.findIn K (.ref C) (dunderI op.info.2) = some none
  ho : PySem.W.findIn K (.type "object") (dunderI op.info.2) = some none
theorem in_O {op : Operator} (M : OwnM X CX k C (PySem.dunder op.info.2) sp) (N : InT X.K C op) (hr : Room k X.A) (hx : Passes CX X E) : InOp X op (rBinO X.K C op sp E) := by
  intro pins s σ H x y u v Q I rx ry h
  obtain ⟨f, fd, ps, F, hb, hs, hf⟩ := M.ex
  obtain ⟨a, dx, fs, T, rfl, ha, ty, B, q⟩ := h
  obtain ⟨ox, od, J⟩ := inst_of I ha
  obtain ⟨Pt, Z, pt, _⟩ := kit_of I ry ty
  obtain ⟨m, hF⟩ := I.fr
  obtain ⟨fo, h1⟩ := B.h1
  obtain ⟨ro, h2⟩ := B.h2
  obtain ⟨cd, hcd, hm⟩ := N.cd
  have rx' := rx
  cases rx'
  refine PySem.W.nb_inT hF I.ok.mod.kin J (Z.ty _ _ I.kIn pt) B.hc hcd hm N.hi N.ho hs hf B.hr (.inl rfl) h1 h2 B.hs (wpAny_mono (run_at F ⟨hr, rfl⟩ hb hx I (.cons rel_ref (.cons ry .nil)) q) ?_ fun _ _ z => z)
  rintro w s' ⟨z, H', I', rz, qb⟩
  have e : EP X pins σ Q w s' := ⟨z, H', I', rz, qb⟩
  have n := rel_noNI rz
  cases w <;> first | exact e | exact absurd rfl n
/-- the other operand of the same class -/
theorem op_binS {op : Operator} (M : OwnM X CX k C (PySem.dunder op.info.2) sp) (hc : PySem.W.selfFirst X.K C = true) (hr : Room k X.A) (hx : Passes CX X E) : OpR X (binaryOp op) (rBinS X.K C sp E) := by
  intro pins s σ H x y u v Q I rx ry h
  obtain ⟨f, fd, ps, F, hb, hs, hf⟩ := M.ex
  obtain ⟨a, dx, b, dy, fs, gs, rfl, ha, rfl, hb2, q⟩ := h
  obtain ⟨ox, od, J⟩ := inst_of I ha
  obtain ⟨oy, oe, J2⟩ := inst_of I hb2
  obtain ⟨m, hF⟩ := I.fr
  have rx' := rx
  cases rx'
  have ry' := ry
  cases ry'
  refine PySem.W.binop_K hF I.ok.mod.kin J J2.type hc hs hf (wpAny_mono (run_at F ⟨hr, rfl⟩ hb hx I (.cons rel_ref (.cons rel_ref .nil)) q) ?_ fun _ _ z => z)
  rintro w s' ⟨z, H', I', rz, qb⟩
  have e : EP X pins σ Q w s' := ⟨z, H', I', rz, qb⟩
  have n := rel_noNI rz
  cases w <;> first | exact e | exact absurd rfl n
/-- either -/
theorem op_or {f : Value → Value → Sem Value} {r1 r2 : R2} (h1 : OpR X f r1) (h2 : OpR X f r2) : OpR X f (fun x y H Q => r1 x y H Q ∨ r2 x y H Q) := by
  intro pins s σ H x y u v Q I rx ry h
  rcases h with h | h
  · exact h1 pins s σ H x y u v Q I rx ry h
  · exact h2 pins s σ H x y u v Q I rx ry h
end
end NB
/-! NBm: an own operator with an operand of another own class that has no such method. -/
namespace PySem.W
open PySem PySem.Calls PyProof.Rows
section
variable {prog : Program} {w : World} {A : Around} {E : Value → Shared → Prop} {s : Shared} {K : Frag} {x C D L f : Addr} {h₀ : Heap} {m : Str → Option Value} {ox : Obj} {od : Option Obj} {b : Value}
theorem nb_fillsD0 {M : Model} {h : Heap} {nm : String} {cd : ClassData} (X : K.In h) (hc : clsIn K D = some cd) (hm : cd.mro = [.ref D, .type "object"]) (h1 : findIn K (.ref D) (PySem.dunder nm) = some none) (h2 : findIn K (.ref D) (dunderR nm) = some none)
    (o1 : findIn K (.type "object") (PySem.dunder nm) = some none) (o2 : findIn K (.type "object") (dunderR nm) = some none) : Looks M h (fillsNumberSlot (.ref D) nm) false := by
  intro A Q E s k q
  have Lm : Looks M h (mroOf (.ref D)) cd.mro := (looks_clsIn X hc).andThen (f := fun cd => pure cd.mro) .now
  have Lm' := Lm.keeps k
  obtain ⟨hh, g, d, tt, os⟩ := s
  have X' : K.In hh := X.keeps k
  have L1 : Looks M hh (typeLookup (.ref D) (PySem.dunder nm)) none := looks_findIn X' h1
  have L2 : Looks M hh (typeLookup (.ref D) (dunderR nm)) none := looks_findIn X' h2
  have L3 : Looks M hh (typeLookup (.type "object") (PySem.dunder nm)) none := looks_findIn X' o1
  have L4 : Looks M hh (typeLookup (.type "object") (dunderR nm)) none := looks_findIn X' o2
  unfold fillsNumberSlot
  refine wpAny_bind (Lm'.at ?_)
  rw [hm, List.anyM_cons]
  refine wpAny_bind ?_
  show wpAny M A (List.anyM _ [PySem.dunder nm, dunderR nm]) _ _ _
  rw [List.anyM_cons]
  refine wpAny_bind (wpAny_bind (L1.at (wpAny_pure ?_)))
  rw [if_neg (by decide), List.anyM_cons]
  refine wpAny_bind (wpAny_bind (L2.at (wpAny_pure ?_)))
  rw [if_neg (by decide)]
  refine wpAny_pure ?_
  rw [if_neg (by decide), List.anyM_cons]
  refine wpAny_bind (wpAny_bind (L3.at (wpAny_bind (L4.at (wpAny_pure ?_)))))
  rw [if_neg (by decide)]
  exact wpAny_pure q
theorem nb_binD {op : Operator} {cd : ClassData} {rc : Option Value} {Q : Value → Shared → Prop} (F : Fr h₀ L s.heap m) (X₀ : K.In h₀) (I : InstAt s.heap x ox C od)
    (hb : Looks (model prog w) s.heap (typeOf b) (.ref D)) (ne : C ≠ D) (hc : selfFirst K C = true)
    (hs : findIn K (.ref C) (PySem.dunder op.info.2) = some (some (.ref f))) (hf : isFn K (.ref f) = true)
    (hr : findIn K (.ref C) (dunderR op.info.2) = some rc) (hp : rc = none ∨ ∃ g : Addr, rc = some (.ref g))
    (hcd : clsIn K D = some cd) (hm : cd.mro = [.ref D, .type "object"]) (h1 : findIn K (.ref D) (PySem.dunder op.info.2) = some none) (h2 : findIn K (.ref D) (dunderR op.info.2) = some none)
    (o1 : findIn K (.type "object") (PySem.dunder op.info.2) = some none) (o2 : findIn K (.type "object") (dunderR op.info.2) = some none)
    (h : wpAny (model prog w) A (call (.ref f) [.ref x, b]) (CmpBack Q) E s) : wpAny (model prog w) A (binaryOp op (.ref x) b) Q E s := by
  have X := X₀.keeps F.keep
  obtain ⟨cd', rest, hcd', hm'⟩ := ksp_first hc
  rcases hi : op.info with ⟨sym, nm⟩
  rw [hi] at hs hr h1 h2 o1 o2
  dsimp only at hs hr h1 h2 o1 o2
  have one := ksp_try X I hs hf h
  obtain ⟨hh, g, d, tt, os⟩ := s
  have a1 : Looks (model prog w) hh (typeOf (.ref x)) (.ref C) := I.type
  have a3 : Looks (model prog w) hh (fillsNumberSlot (.ref C) nm) true := fills_K X hcd' hm' hs
  have a4 : Looks (model prog w) hh (fillsNumberSlot (.ref D) nm) false := nb_fillsD0 X hcd hm h1 h2 o1 o2
  have a6 : Looks (model prog w) hh (numberSlotInPython (.ref C) nm) true := ksp_inPy X hs hr hp
  have unlike : (Value.ref C == Value.ref D) = false := Bool.eq_false_iff.mpr fun q => by cases beq_iff_eq.mp q; exact ne rfl
  simp only [binaryOp, hi]
  refine wpAny_holding (wpAny_bind ?_)
  unfold binaryOp1
  refine wpAny_bind (a1.at (wpAny_bind (hb.at (wpAny_bind (a3.at ?_)))))
  simp only [unlike, Bool.false_eq_true, if_false]
  ksp_lk
  refine wpAny_mono one (fun r s' hr' => ?_) fun _ _ e => e
  obtain ⟨v, rfl, hq⟩ := hr'
  ksp_lk
  exact hq
end
end PySem.W
namespace NB
open PySem PySem.Spec L2
section
variable {X : Cx} {CX : CXT} {k : Nat} {C D : Addr} {sp : Sp} {E : XK}
/-- what both classes must say -/
structure BinD (K : PySem.W.Frag) (C D : Addr) (op : Operator) : Prop where
  ne : C ≠ D
  hc : PySem.W.selfFirst K C = true
  hr : PySem.W.findIn K (.ref C) (dunderR op.info.2) = some none
  cd : ∃ cd, PySem.W.clsIn K D = some cd ∧ cd.mro = [.ref D, .type "object"]
  h1 : PySem.W.findIn K (.ref D) (PySem.dunder op.info.2) = some none
  h2 : PySem.W.findIn K (.ref D) (dunderR op.info.2) = some none
  o1 : PySem.W.findIn K (.type "object") (PySem.dunder op.info.2) = some none
  o2 : PySem.W.findIn K (.type "object") (dunderR op.info.2) = some none
def binDB (K : PySem.W.Frag) (C D : Addr) (op : Operator) : Bool :=
  decide (C ≠ D) && (PySem.W.selfFirst K C && (decide (PySem.W.findIn K (.ref C) (dunderR op.info.2) = some none) && ((match PySem.W.clsIn K D with | some cd => decide (cd.mro = [.ref D, .type "object"]) | none => false) &&
  (decide (PySem.W.findIn K (.ref D) (PySem.dunder op.info.2) = some none) && (decide (PySem.W.findIn K (.ref D) (dunderR op.info.2) = some none) && (decide (PySem.W.findIn K (.type "object") (PySem.dunder op.info.2) = some none) && decide (PySem.W.findIn K (.type "object") (dunderR op.info.2) = some none)))))))
theorem binDB_ok {K : PySem.W.Frag} {op : Operator} (h : binDB K C D op = true) : BinD K C D op := by
  unfold binDB at h
  simp only [Bool.and_eq_true, decide_eq_true_eq] at h
  obtain ⟨h1, h2, h3, h4, h5, h6, h7, h8⟩ := h
  refine ⟨h1, h2, h3, ?_, h5, h6, h7, h8⟩
  split at h4
  · rename_i cd e
    exact ⟨cd, e, by simpa using h4⟩
  · cases h4
def rBinD (K : PySem.W.Frag) (C D : Addr) (op : Operator) (sp : Sp) (E : XK) : R2 := fun x y H Q => ∃ (a dx b dy : Addr) (fs gs : List (Str × V)),
  x = .ref a ∧ H a = some (.ins C dx fs) ∧ y = .ref b ∧ H b = some (.ins D dy gs) ∧ BinD K C D op ∧ sp [x, y] H (fun v H' => Q v H') E
theorem op_binD {op : Operator} (M : OwnM X CX k C (PySem.dunder op.info.2) sp) (hr : Room k X.A) (hx : Passes CX X E) : OpR X (binaryOp op) (rBinD X.K C D op sp E) := by
  intro pins s σ H x y u v Q I rx ry h
  obtain ⟨f, fd, ps, F, hb, hs, hf⟩ := M.ex
  obtain ⟨a, dx, b, dy, fs, gs, rfl, ha, rfl, hb2, B, q⟩ := h
  obtain ⟨ox, od, J⟩ := inst_of I ha
  obtain ⟨oy, oe, J2⟩ := inst_of I hb2
  obtain ⟨m, hF⟩ := I.fr
  obtain ⟨cd, hcd, hm⟩ := B.cd
  have rx' := rx
  cases rx'
  have ry' := ry
  cases ry'
  refine PySem.W.nb_binD hF I.ok.mod.kin J J2.type B.ne B.hc hs hf B.hr (.inl rfl) hcd hm B.h1 B.h2 B.o1 B.o2 (wpAny_mono (run_at F ⟨hr, rfl⟩ hb hx I (.cons rel_ref (.cons rel_ref .nil)) q) ?_ fun _ _ z => z)
  rintro w s' ⟨z, H', I', rz, qb⟩
  have e : EP X pins σ Q w s' := ⟨z, H', I', rz, qb⟩
  have n := rel_noNI rz
  cases w <;> first | exact e | exact absurd rfl n
end
end NB
/-! NBn: a built-in value == an own object. -/
namespace PySem.W
open PySem PySem.Calls PyProof.Rows
section
variable {prog : Program} {w : World} {A : Around} {E : Value → Shared → Prop} {s : Shared} {K : Frag} {y C L f : Addr} {h₀ : Heap} {m : Str → Option Value} {oy : Obj} {od : Option Obj} {a : Value} {T : String}
/-- a == y, a declines -/
theorem nb_eqR {Q : Value → Shared → Prop} (hu : A.units < cLine) (F : Fr h₀ L s.heap m) (X₀ : K.In h₀) (I : InstAt s.heap y oy C od) (ha : Looks (model prog w) s.heap (typeOf a) (.type T)) (hsub : subIn K (.ref C) (.type T) = some false) (h1 : oneThing? .Eq a (.ref y) = none)
    (decl : ∀ (Q : Option Value → Shared → Prop), Q none s → wpAny (model prog w) A (tryCompare a "__eq__" (.ref y)) Q E s)
    (hs : findIn K (.ref C) "__eq__" = some (some (.ref f))) (hf : isFn K (.ref f) = true)
    (h : wpAny (model prog w) A (call (.ref f) [.ref y, a]) (CmpBack Q) E s) : wpAny (model prog w) A (richCompare .Eq a (.ref y)) Q E s := by
  have X := X₀.keeps F.keep
  have unlike : (Value.type T != Value.ref C) = true := by
    rw [bne_iff_ne]
    intro z
    cases z
  unfold richCompare
  simp only [h1]
  refine wpAny_holding (wpAny_bind (wpAny_cRoomFor hu ?_))
  refine wpAny_bind (ha.here (wpAny_bind (I.type.here ?_)))
  rw [if_pos unlike]
  refine wpAny_bind ((looks_subIn X hsub).here ?_)
  simp only [Bool.false_eq_true, if_false]
  refine wpAny_bind (decl _ ?_)
  simp only [Bool.not_false, if_true]
  refine wpAny_bind ?_
  unfold tryCompare
  refine wpAny_bind (ifBound_K X I hs hf (wpAny_mono h (fun v s' hv => ?_) fun _ _ e => e))
  cases v <;> first | exact hv.elim | exact wpAny_pure (wpAny_pure hv)
end
end PySem.W
namespace PySem
open PySem.F
theorem int_eq_declines_plain (b : Int) (u : Tok) (l : Addr) (o : Obj) (hd : o.data = .plain) :
    Meets (Builtin.«int.__eq__» ⟨[.int b u, .ref l], []⟩) (fun _ R s => s.heap.get? l = some o ∧ R (.ok (.ret .notImplemented)) s) :=
  .of_wp fun prog w A R s h => by obtain ⟨hp, g, d, tk, os⟩ := s; obtain ⟨hl, h⟩ := h; obtain ⟨c, dd, dat, sl⟩ := o; cases hd; wp_walk using wpAny_loadPart' hl, wpAny_load hl; exact ⟨_, rfl, h⟩
theorem bool_eq_declines_plain (b : Bool) (l : Addr) (o : Obj) (hd : o.data = .plain) :
    Meets (Builtin.«int.__eq__» ⟨[.bool b, .ref l], []⟩) (fun _ R s => s.heap.get? l = some o ∧ R (.ok (.ret .notImplemented)) s) :=
  .of_wp fun prog w A R s h => by obtain ⟨hp, g, d, tk, os⟩ := s; obtain ⟨hl, h⟩ := h; obtain ⟨c, dd, dat, sl⟩ := o; cases hd; wp_walk using wpAny_loadPart' hl, wpAny_load hl; exact ⟨_, rfl, h⟩
theorem str_eq_declines_plain (b : Str) (u : Tok) (l : Addr) (o : Obj) (hd : o.data = .plain) :
    Meets (Builtin.«str.__eq__» ⟨[.str b u, .ref l], []⟩) (fun _ R s => s.heap.get? l = some o ∧ R (.ok (.ret .notImplemented)) s) :=
  .of_wp fun prog w A R s h => by obtain ⟨hp, g, d, tk, os⟩ := s; obtain ⟨hl, h⟩ := h; obtain ⟨c, dd, dat, sl⟩ := o; cases hd; wp_walk using wpAny_loadPart' hl, wpAny_load hl; exact ⟨_, rfl, h⟩
end PySem
/-! NBq: the layer's rule for a built-in value == an own object. -/
namespace PySem.W
open PySem PySem.Calls PyProof.Rows PySem.SeqAt
section
variable {prog : Program} {w : World} {A : Around} {E : Value → Shared → Prop} {s : Shared} {K : Frag} {y C : Addr} {oy : Obj} {od : Option Obj} {l : Addr} {o : Obj}
theorem nb_dec_tup (X : K.In s.heap) (I : InstAt s.heap y oy C od) (ho : s.heap.get? l = some o) (hc : o.cls = .type "tuple") (hs : subIn K (.ref C) (.type "tuple") = some false) (Q : Option Value → Shared → Prop) (h : Q none s) :
    wpAny (model prog w) A (tryCompare (.ref l) "__eq__" (.ref y)) Q E s := by
  refine wpAny_tryCompare_declines (T := "tuple") ⟨_, ho, hc⟩ F.slot_tuple_eq ?_
  refine wpAny_call (codeAny_call_builtin F.slot_tuple_eq.plain F.entry_tuple_eq (F.slot_tuple_eq.check _ _ _ _ _ _ _ _ ⟨_, ho, hc⟩ (F.args_tuple_eq_2 _ _) ?_))
  have hi : ∀ (R : Bool → Shared → Prop) (A : Around) (E : Value → Shared → Prop), R false s → wpAny (model prog w) A (isInstance (.ref y) (.type "tuple")) R E s := fun R A E q => wpAny_bind (I.type.here ((looks_subIn X hs).here q))
  obtain ⟨hp, g, d, tk, os⟩ := s
  wp_walk using hi
  exact ⟨rfl, h⟩
theorem nb_dec_lst (X : K.In s.heap) (I : InstAt s.heap y oy C od) (ho : s.heap.get? l = some o) (hc : o.cls = .type "list") (hs : subIn K (.ref C) (.type "list") = some false) (Q : Option Value → Shared → Prop) (h : Q none s) :
    wpAny (model prog w) A (tryCompare (.ref l) "__eq__" (.ref y)) Q E s := by
  refine wpAny_tryCompare_declines (T := "list") ⟨_, ho, hc⟩ F.slot_list_eq ?_
  refine wpAny_call (codeAny_call_builtin F.slot_list_eq.plain F.entry_list_eq (F.slot_list_eq.check _ _ _ _ _ _ _ _ ⟨_, ho, hc⟩ (F.args_list_eq_2 _ _) ?_))
  have hi : ∀ (R : Bool → Shared → Prop) (A : Around) (E : Value → Shared → Prop), R false s → wpAny (model prog w) A (isInstance (.ref y) (.type "list")) R E s := fun R A E q => wpAny_bind (I.type.here ((looks_subIn X hs).here q))
  obtain ⟨hp, g, d, tk, os⟩ := s
  wp_walk using hi
  exact ⟨rfl, h⟩
theorem nb_dec_none (Q : Option Value → Shared → Prop) (h : Q none s) : wpAny (model prog w) A (tryCompare .none "__eq__" (.ref y)) Q E s :=
  wpAny_tryCompare_declines (T := "NoneType") rfl F.slot_NoneType_eq (call_gives F.slot_NoneType_eq rfl F.entry_NoneType_eq (F.args_NoneType_eq_2 _ _) (NoneType___eq___none_ref_0 y) ⟨rfl, h⟩)
theorem nb_dec_int {i : Int} {t : Tok} (ho : s.heap.get? y = some oy) (hd : oy.data = .plain) (Q : Option Value → Shared → Prop) (h : Q none s) : wpAny (model prog w) A (tryCompare (.int i t) "__eq__" (.ref y)) Q E s :=
  wpAny_tryCompare_declines (T := "int") (typeIs_int s i t) F.slot_int_eq (call_meets F.slot_int_eq (typeIs_int s i t) F.entry_int_eq (F.args_int_eq_2 _ _) (int_eq_declines_plain i t y oy hd) ⟨ho, rfl, h⟩)
theorem nb_dec_bool {b : Bool} (ho : s.heap.get? y = some oy) (hd : oy.data = .plain) (Q : Option Value → Shared → Prop) (h : Q none s) : wpAny (model prog w) A (tryCompare (.bool b) "__eq__" (.ref y)) Q E s :=
  wpAny_tryCompare_declines (T := "bool") rfl F.slot_bool_eq (call_meets F.slot_bool_eq rfl F.entry_int_eq (F.args_int_eq_2 _ _) (bool_eq_declines_plain b y oy hd) ⟨ho, rfl, h⟩)
theorem nb_dec_str {z : Str} {t : Tok} (ho : s.heap.get? y = some oy) (hd : oy.data = .plain) (Q : Option Value → Shared → Prop) (h : Q none s) : wpAny (model prog w) A (tryCompare (.str z t) "__eq__" (.ref y)) Q E s :=
  wpAny_tryCompare_declines (T := "str") (typeIs_str s z t) F.slot_str_eq (call_meets F.slot_str_eq (typeIs_str s z t) F.entry_str_eq (F.args_str_eq_2 _ _) (str_eq_declines_plain z t y oy hd) ⟨ho, rfl, h⟩)
end
end PySem.W
namespace NB
open PySem PySem.Spec L2
/-- built-in values on the left -/
inductive Lft (H : Hp) : V → String → Prop
  | non : Lft H .non "NoneType"
  | bl (b : Bool) : Lft H (.bl b) "bool"
  | int (i : Int) : Lft H (.int i) "int"
  | str (z : Str) : Lft H (.str z) "str"
  | tup {a : Addr} {xs : List V} (e : H a = some (.tup xs)) : Lft H (.ref a) "tuple"
  | lst {a : Addr} {xs : List V} (e : H a = some (.lst xs)) : Lft H (.ref a) "list"
section
variable {X : Cx} {CX : CXT} {k : Nat} {C : Addr} {sp : Sp} {E : XK}
theorem Lft.ty {K : PySem.W.Frag} {H : Hp} {x : V} {T : String} (h : Lft H x T) : TyX K H x (.type T) := by
  cases h with
  | non => exact .base .non
  | bl b => exact .base (.bl b)
  | int i => exact .base (.int i)
  | str z => exact .base (.str z)
  | tup e => exact .base (.tup e)
  | lst e => exact .base (.lst e)
/-- x == y by y's own __eq__, x built-in -/
def rEqR (K : PySem.W.Frag) (C : Addr) (sp : Sp) (E : XK) : R2 := fun x y H Q => ∃ (b dy : Addr) (fs : List (Str × V)) (T : String), y = .ref b ∧ H b = some (.ins C dy fs) ∧ Lft H x T ∧ PySem.W.subIn K (.ref C) (.type T) = some false ∧
  sp [y, x] H (fun v H' => ∃ b, v = .bl b ∧ Q (.bl b) H') E
theorem op_eqR (M : OwnM X CX k C "__eq__" sp) (hr : Room k X.A) (hx : Passes CX X E) : OpR X (compareOp .Eq) (rEqR X.K C sp E) := by
  intro pins s σ H x y u v Q I rx ry h
  obtain ⟨f, fd, ps, F, hb, hs, hf⟩ := M.ex
  obtain ⟨b, dy, fs, T, rfl, hy, lf, sub, q⟩ := h
  obtain ⟨mA, J0, _⟩ := ins_get I.hok hy
  obtain ⟨od, J, _⟩ := J0.look
  obtain ⟨Pt, Z, pt, _⟩ := kit_of I rx (lf.ty (K := X.K))
  obtain ⟨m, hF⟩ := I.fr
  have ry' := ry
  cases ry'
  have fin : wpAny (model X.prog X.w) X.A (call (.ref f) [.ref b, u]) (PySem.W.CmpBack (EP X pins σ Q)) X.xe s := by
    refine wpAny_mono (run_at F ⟨hr, rfl⟩ hb hx I (.cons rel_ref (.cons rx .nil)) q) ?_ fun _ _ z => z
    rintro w s' ⟨z, H', I', rz, b, rfl, qb⟩
    cases rz
    exact ⟨.bl b, H', I', rfl, qb⟩
  have ty := Z.ty (model X.prog X.w) _ I.kIn pt
  have kIn := I.kIn
  cases lf with
  | non =>
    cases (show u = Value.none from rx)
    exact PySem.W.nb_eqR hr.units0 hF I.ok.mod.kin J ty sub rfl (fun Q q => PySem.W.nb_dec_none Q q) hs hf fin
  | bl i =>
    cases (show u = Value.bool i from rx)
    exact PySem.W.nb_eqR hr.units0 hF I.ok.mod.kin J ty sub rfl (fun Q q => PySem.W.nb_dec_bool J0.obj rfl Q q) hs hf fin
  | int i =>
    obtain ⟨t, rfl⟩ := (show ∃ t, u = Value.int i t from rx)
    exact PySem.W.nb_eqR hr.units0 hF I.ok.mod.kin J ty sub rfl (fun Q q => PySem.W.nb_dec_int J0.obj rfl Q q) hs hf fin
  | str z =>
    obtain ⟨t, rfl⟩ := (show ∃ t, u = Value.str z t from rx)
    exact PySem.W.nb_eqR hr.units0 hF I.ok.mod.kin J ty sub rfl (fun Q q => PySem.W.nb_dec_str J0.obj rfl Q q) hs hf fin
  | @tup a xs e =>
    cases (show u = Value.ref a from rx)
    obtain ⟨_, its, _, ob, e1, c1⟩ := (show ObjOk _ _ H s.heap a (.tup xs) from I.hok a _ e)
    exact PySem.W.nb_eqR hr.units0 hF I.ok.mod.kin J ty sub rfl (fun Q q => PySem.W.nb_dec_tup kIn J e1 c1.1 sub Q q) hs hf fin
  | @lst a xs e =>
    cases (show u = Value.ref a from rx)
    obtain ⟨_, its, n, _, e1⟩ := (show ObjOk _ _ H s.heap a (.lst xs) from I.hok a _ e)
    exact PySem.W.nb_eqR hr.units0 hF I.ok.mod.kin J ty sub rfl (fun Q q => PySem.W.nb_dec_lst kIn J e1 rfl sub Q q) hs hf fin
end
end NB
/-! NBr: for x in o and [.. for x in o], o of an own class whose __iter__ gives a tuple's iterator. -/
namespace NB
open PySem PySem.Spec PyProof.Rows L2 ItX
section
variable {X : Cx} {CX : CXT} {k : Nat} {C : Addr} {spI : Sp}
/-- iter(t), t a tuple: the iterator lies above all that is tracked -/
def rIterA (K : PySem.W.Frag) : List V → Hp → VK → Prop := fun xs H Q => ∃ (t : Addr) (zs : List V), xs = [.ref t] ∧ SqT K H t zs ∧ ∀ it, H it = none → (∀ b u, H b = some u → b < it) → Q (.ref it) (upd H it (TItO t it))
theorem call_iterA : CallR X (.builtin "iter") (rIterA X.K) := by
  intro pins s σ H xs us Q I r h
  obtain ⟨l, zs, rfl, hq, q⟩ := h
  obtain rfl := Vals.ref1 r
  obtain ⟨its, rv, ht, hz⟩ := I.tuple hq
  refine Calls.call_function_entry (by decide +kernel) (by decide +kernel) PySem.W.kdk_entry_iter (PySem.W.kdk_args_iter _) ?_
  unfold Builtin.«iter»
  refine wpAny_bind (m := someArgs "iter" 1 2 _) (wpAny_of_eq (a := [Value.ref l]) (by first | rfl | kernel_rfl!) ?_)
  show wpAny _ _ (pyIter (.ref l) >>= _) _ _ _
  refine wpAny_bind (wpAny_pyIter_tuple (tup_of ht) ?_)
  refine wpAny_pure ⟨_, rfl, ?_⟩
  exact ⟨.ref s.heap.objs.size, _, I.laid (t' := s.toks) (fun b u e => Heap.get?_push_of_some _ e) (Nat.le_refl _) (tItO_ok ⟨_, Heap.get?_push_size _ rfl, rfl, rfl⟩), rfl, q _ (I.hok.fresh (Nat.le_refl _)) fun b u e => (I.hok b u e).lt⟩
def iOwn (K : PySem.W.Frag) (C : Addr) (spI : Sp) (te : TE) : TI := fun σ H R => te σ H fun x H1 => ∃ (a dx t : Addr) (fs : List (Str × V)) (zs : List V), x = .ref a ∧ H1 a = some (.ins C dx fs) ∧ H1 t = some (.tup zs) ∧
  (∀ H', Same H1 H' → spI [.ref a] H' (fun v H2 => ∃ it, v = .ref it ∧ (∀ b u, H' b = some u → b < it) ∧ H2 = upd H' it (TItO t it)) E0) ∧ R (Itt K t) H1
theorem pi_own {e tg : Expr} {te : TE} (he : PE X e te) (MI : OwnM X CX0 k C "__iter__" spI) (hr : Room k X.A) (y : Str) (hk : X.env.kindOf y = some .cell) (hf : X.fn y = true) : PI X tg e (iOwn X.K C spI te) := by
  refine ⟨fun pins s σ H R I h => ?_⟩
  refine thn (he.run pins s σ H _ I h) fun v s1 ⟨x, H1, I1, r1, q1⟩ => ?_
  obtain ⟨a, dx, t, fs, zs, rfl, ha, ht, hsp, q⟩ := q1
  cases r1
  obtain ⟨ox, od, J⟩ := inst_of I1 ha
  obtain ⟨m0, hF⟩ := I1.fr
  obtain ⟨fI, fdI, psI, FI, bI, sI, iI⟩ := MI.ex
  refine PySem.W.owit_iter hF I1.ok.mod.kin J sI iI ?_
  -- a cell of the frame as a mark
  obtain ⟨mk, hy⟩ := I1.ok.has y (.inl hk)
  obtain ⟨vL, oL, hoL, hdL⟩ := I1.cell y mk hy
  have fL : H1 mk = none := I1.freeC y mk hy
  have hL : X.s_0.heap.objs.size ≤ mk := I1.ok.cab y mk hf hy
  generalize hH' : upd H1 mk (.ext fun h => h.get? mk = some oL) = H'
  have eL : H' mk = some (.ext fun h => h.get? mk = some oL) := by rw [← hH']; exact upd_same
  have nH' : ∀ b, b ≠ mk → H' b = H1 b := fun b n => by rw [← hH', upd_ne n]
  have sm : Same H1 H' := fun b o e => by
    rw [nH' b (ne_of_none e fL)]
    exact e
  have hsp := hsp H' sm
  have hok1 : HOk X.prog X.w H' s1.heap := by
    intro b o e
    by_cases hb : b = mk
    · rw [hb, eL] at e
      cases e
      rw [hb]
      exact ⟨hoL, ⟨_, hoL⟩, fun h1 h2 z y => y _ z⟩
    · rw [nH' b hb] at e
      exact (I1.hok b o e).stay (fun d u _ y => y) (fun d y => sm _ _ y) (fun d zs y => sm _ _ y)
  have env : Env0 X.prog X.w X.K X.mg X.base X.A X.stack s1 H' := by
    have e := I1.env0
    refine ⟨e.frames, e.mod, fun b o y => ⟨(e.bs b o y).1, ?_⟩, e.bsz, e.funs, fun b y => ?_, hok1, e.bare⟩
    · have n : b ≠ mk := fun z => by
        rw [z] at y
        exact absurd (Nat.lt_of_lt_of_le (Heap.lt_size y) (Nat.le_trans I1.ok.bsz hL)) (Nat.lt_irrefl _)
      rw [nH' b n]
      exact (e.bs b o y).2
    · have n : b ≠ mk := fun z => by
        rw [z] at y
        have no : mk ∉ frs X.outer := fun u => by
          obtain ⟨_, o, ho, _⟩ := I1.ok.funs.mem u
          exact absurd (Nat.lt_of_lt_of_le (Heap.lt_size ho) hL) (Nat.lt_irrefl _)
        rcases I1.ok.stk with z | ⟨z, fr⟩
        · rw [z] at y
          exact no y
        · rw [z] at y
          unfold frs at y no
          rw [List.filterMap_cons, fr] at y
          rcases List.mem_cons.mp y with u | u
          · exact I1.cne _ _ hy u
          · exact no u
      rw [nH' b n]
      exact e.frf b y
  have hl := FI.len _ _ _ _ hsp
  have bd := bI s1 [.ref a] I1.kIn (by simpa using hl)
  rw [List.append_nil] at bd
  refine wpAny_call (codeAny_mono (FI.run X.A X.stack s1 H' ⟨[.ref a], []⟩ [.ref a] [.ref a] _ E0 hr env bd (.cons rel_ref .nil) hsp) fun r s' hq' => ?_)
  match r, hq' with
  | .ok (.ret u), ⟨v, H2, os, bare, un, hok, rv, it, ev, hit, eH⟩ =>
    subst ev
    obtain rfl : u = Value.ref it := rv
    have lit : mk < it := hit _ _ eL
    have nit : H1 it = none := by
      cases z : H1 it with
      | none => rfl
      | some o => exact absurd (hit _ _ (sm _ _ z)) (Nat.lt_irrefl _)
    have h2L : H2 mk = some (.ext fun h => h.get? mk = some oL) := by rw [eH, upd_ne (Nat.ne_of_lt lit)]; exact eL
    have keepL : s'.heap.get? mk = some oL := (hok _ _ h2L).1
    have h2it : H2 it = some (TItO t it) := by rw [eH]; exact upd_same
    have un' : Un (frs X.stack) [] H1 (upd H1 it (TItO t it)) s1.heap s'.heap := by
      refine ⟨fun b o e n f x => ?_, fun b o e n f x => ?_, fun b o e n x => ?_, fun b o e x => un.there b o e x, fun b xs e => ?_, fun b o u e => ?_, fun b ps e => ⟨#[], ?_⟩⟩
      · by_cases hb : b = mk
        · rw [hb] at e ⊢
          rw [keepL, ← hoL, e]
        · exact un.keep b o e (by rw [nH' b hb]; exact n) f x
      · by_cases hb : b = mk
        · rw [hb] at e ⊢
          refine ⟨o.slots, ?_⟩
          rw [keepL, ← hoL, e]
        · exact un.slot b o e (by rw [nH' b hb]; exact n) f x
      · by_cases hb : b = mk
        · rw [hb, upd_ne (Nat.ne_of_lt lit)]
          exact fL
        · have z := un.free b o e (by rw [nH' b hb]; exact n) x
          have nb : b ≠ it := fun y => by
            rw [y, h2it] at z
            cases z
          rw [upd_ne nb]
          exact n
      · rw [upd_ne (ne_of_none e nit)]
        exact e
      · rw [upd_ne (ne_of_none e nit)]
        exact e
      · rw [upd_ne (ne_of_none e nit), e]
        simp
    have hok' : HOk X.prog X.w (upd H1 it (TItO t it)) s'.heap := by
      have tr : ∀ b o, H2 b = some o → (∀ φ, o ≠ .ext φ) → upd H1 it (TItO t it) b = some o := fun b o e ne => by
        have nb : b ≠ it := fun z => by
          rw [z, h2it] at e
          exact ne _ (Option.some.inj e).symm
        have nl : b ≠ mk := fun z => by
          rw [z, h2L] at e
          exact ne _ (Option.some.inj e).symm
        rw [upd_ne nb]
        rw [eH, upd_ne nb, nH' b nl] at e
        exact e
      intro b o e
      have e2 : H2 b = some o := by
        by_cases hb : b = it
        · rw [hb, upd_same] at e
          rw [hb, h2it]
          exact e
        · rw [upd_ne hb] at e
          rw [eH, upd_ne hb]
          exact sm _ _ e
      exact (hok b o e2).stay (fun d u _ y => y) (fun d y => tr _ _ y (fun _ z => nomatch z)) (fun d zs y => tr _ _ y (fun _ z => nomatch z))
    obtain ⟨_, _, I2, _, _, e4⟩ := I1.after (Q := fun v2 H3 => v2 = .ref it ∧ H3 = upd H1 it (TItO t it)) ⟨.ref it, _, os, bare, un', hok', rel_ref, rfl, rfl⟩
    rw [e4] at I2
    have eIt : upd H1 it (TItO t it) it = some (TItO t it) := upd_same
    have hti : s'.heap.IsTupleIter it t 0 := (I2.hok it _ eIt).1
    have hD : dropH (upd H1 it (TItO t it)) it = H1 := dropH_upd nit
    have J6 := inv_drop I2 eIt
    have fp := inv_fp I2 eIt (Nat.le_trans hL (Nat.le_of_lt lit))
    rw [hD] at J6 fp
    unfold PySem.W.OwitIt
    refine wpAny_specialOf hti.typeIs F.slot_tuple_iterator_next.lookup ?_
    refine ⟨it, [it], _, _, H1, rfl, J6, turn_tuple t it, hti, fun b hb => ?_, q⟩
    have e : b = it := by simpa using hb
    rw [e]
    exact fp
end
end NB
/-! NBl: defs that make lambdas (their code object is known), the end with tables and without repr under way. -/
namespace NB
open PySem PySem.Spec PyProof.Rows L2
structure FunC (K : PySem.W.Frag) (x qual : Str) (st : Stmt) (f c : Addr) (fd : FuncData) : Prop where
  ex : ∃ (oc : Value) (od : Option Addr) (kV doc pm : Value) (an : Option Addr) (ct : Value) (osl : Array (Option Value)),
    fd = PySem.W.fnOf x qual (defArgs st) (defBody st) (defScope st) .none kV doc pm an (.ref c) ct ∧ K.lookup f = some ⟨oc, od, .func fd, osl⟩ ∧ PySem.W.codeIn K (.ref c) qual = true
  kp : PySem.W.keepIn K (.ref f) = true
section
variable {P : Program} {w : World} {K : PySem.W.Frag} {mg : Str → Option Value} {base : Heap}
theorem FunC.toFun {x qual : Str} {st : Stmt} {f c : Addr} {fd : FuncData} (F : FunC K x qual st f c fd) : Fun K x qual st f fd := by
  obtain ⟨oc, od, kV, doc, pm, an, ct, osl, e, lk, hcd⟩ := F.ex
  exact ⟨⟨oc, od, kV, doc, pm, an, .ref c, ct, osl, e, lk, hcd⟩, F.kp⟩
theorem okGC {x qual : Str} {st : Stmt} {f c : Addr} {fd : FuncData} {N ps : List Str} {k : Nat} {sp : Sp}
    (F : FunC K x qual st f c fd) (S : FnScope N ps (defScope st)) (len : ∀ vs H Q E, sp vs H Q E → vs.length = ps.length)
    (hbody : ∀ (A : Around) (outer : List Env) (s : Shared) (H : Hp) (vs : List V) (Q : VK) (E : XK),
      Room k (A.deeper (envOfC qual (defScope st) s.heap.objs.size f (.ref c))) →
      (A.deeper (envOfC qual (defScope st) s.heap.objs.size f (.ref c))).guards = some [] → sp vs H Q E →
      ∃ t, PSs (cxOf CX0 P w K mg base N qual (defScope st) f (.ref c) A outer s H E).nox (defBody st) t ∧
        t { nx := fun _ H' => Q .non H', rt := Q } (start N vs) H) :
    FnG P w K mg base CX0 (k + 1) f fd ps sp := by
  obtain ⟨oc, od, kV, doc, pm, an, ct, osl, rfl, lk, hcd⟩ := F.ex
  refine fnG_of lk hcd S len ?_
  intro A outer s H vs Q E room gd hsp
  obtain ⟨t, h, q⟩ := hbody A outer s H vs Q E room gd hsp
  exact ⟨t, h.nox, q⟩
end
/-! ### tables -/
section
variable {p : Addr} {H H' H1 H2 : Hp}
/-- all but what stands at p, and the tables -/
def ButN (p : Addr) (H H' : Hp) : Prop := ∀ a o, a ≠ p → H a = some o → (∀ ps, o ≠ .tbl ps) → H' a = some o
theorem ButN.refl (p : Addr) (H : Hp) : ButN p H H := fun _ _ _ h _ => h
theorem ButN.trans (a : ButN p H H1) (b : ButN p H1 H2) : ButN p H H2 := fun x o n h t => b x o n (a x o n h t) t
theorem ButN.ext (e : LamX.ExtN H H') : ButN p H H' := fun a o _ h t => e a o h t
theorem tabs_but {T : List (Addr × Str)} {xs : List V} (b : ∀ a o, a ≠ p → H a = some o → H' a = some o) (hp : H p = some (.lst xs)) (t : LamX.Tabs T H) : LamX.Tabs T H' := by
  intro q hq
  obtain ⟨ps, h1, h2, h3⟩ := t q hq
  have ne : ∀ c o, H c = some o → (∀ zs, o ≠ .lst zs) → c ≠ p := fun c o e n z => by
    rw [z, hp] at e
    exact n xs (Option.some.inj e).symm
  refine ⟨ps, b _ _ (ne _ _ h1 (fun _ z => nomatch z)) h1, h2, fun pos cv hc => ?_⟩
  obtain ⟨c, e1, e2⟩ := h3 pos cv hc
  exact ⟨c, e1, b _ _ (ne _ _ e2 (fun zs z => by unfold LamX.CodeO at z; cases z)) e2⟩
end
/-! ### the end -/
theorem law_callTG {P : Program} {w : World} {K : PySem.W.Frag} {mg mb : Str → Option Value} {k : Nat} {fa a : Addr} {cs : List (Addr × Addr)} {fd : FuncData} {x : Str} {sp : Sp} {s₁ : Shared} {vs : List Value} {ns : List Int}
    (KX : K.In s₁.heap) (hns : s₁.heap.Ns mainGlobals mg) (hb : s₁.heap.Ns builtinsNs mb) (hbb : ∀ x : Str, x ≠ "__name__" → mb x = bootBuiltins x) (hlim : s₁.heap.NoLimit) (hg : s₁.gens = #[])
    (hT : ∀ p ∈ cs, s₁.heap.get? p.2 = some { cls := .none, data := .fields #[] }) (nT : ∀ p ∈ cs, K.lookup p.2 = none) (C : ∀ p ∈ cs, PySem.W.CodeHd s₁.heap p.1 p.2)
    (hbm : ∃ (bm : Addr) (ob : Obj), mg "__builtins__" = some (.ref bm) ∧ bm ≠ builtinsNs ∧ s₁.heap.get? bm = some ob ∧ ob.cls = .type "module" ∧ ob.dict = some builtinsNs ∧ ob.data = .plain)
    (ha : s₁.heap.get? a = some { cls := .type "list", data := .seq vs.toArray }) (hi : IntsAre vs ns) (hl : ns.length ≤ sizeLine) (hr : Room k callerA)
    (F : ∀ base : Heap, K.In base → base.Ns mainGlobals mg → (∀ p ∈ cs, LamX.TabB base mg p.1 p.2) → FnG P w K mg base CX0 k fa fd [x] sp) (hbind : ∀ (s : Shared) (u : Value), BindsTo s fd ⟨[u], []⟩ [(x, u)])
    (hsp : ∀ H : Hp, (∀ p ∈ cs, H p.2 = some (.tbl #[])) → SqL K H a (ns.map V.int) → sp [.ref a] H (fun v _ => v = .bl true) fun _ _ _ => False) :
    codeAny (model P w) callerA (.call (.ref fa) ⟨[.ref a], []⟩) (fun r s' => r = .ok (.ret (.bool true)) ∧ OldK s₁.heap s'.heap ∧ s'.os = s₁.os ∧ AllBare s'.gens) s₁ := by
  let ts : List Addr := cs.map (·.2)
  have tabAt : ∀ b ∈ ts, s₁.heap.get? b = some { cls := .none, data := .fields #[] } := by
    intro b hb
    obtain ⟨p, hp, rfl⟩ := List.mem_map.mp hb
    exact hT p hp
  have inT : ∀ p ∈ cs, p.2 ∈ ts := fun p hp => List.mem_map_of_mem hp
  have aOut : a ∉ ts := by
    intro z
    have y := tabAt a z
    rw [ha] at y
    have y2 := congrArg Obj.data (Option.some.inj y)
    cases y2
  -- whatever is tracked at the entry is the script, or a table
  have main : ∀ H : Hp, (∀ p ∈ cs, H p.2 = some (.tbl #[])) → (∀ b, b ∉ ts → H b = none ∨ ∃ o xs, H b = some (.frz o (.lst xs))) → SqL K H a (ns.map V.int) → HOk P w H s₁.heap → (∀ b, H b ≠ none → b = a ∨ b ∈ ts) → (H a ≠ none → K.lookup a = none) →
      codeAny (model P w) callerA (.call (.ref fa) ⟨[.ref a], []⟩)
        (fun r s' => r = .ok (.ret (.bool true)) ∧ OldK s₁.heap s'.heap ∧ s'.os = s₁.os ∧ AllBare s'.gens) s₁ := by
    intro H tab only hS hok one hK
    have untracked : ∀ {b : Addr} {o : Obj}, s₁.heap.get? b = some o → (∀ us n, o.data ≠ .seq us n) → o.data ≠ .fields #[] → H b = none := by
      intro b o e h1 h2
      cases q : H b with
      | none => rfl
      | some u =>
        rcases one b (by rw [q]; exact Option.some_ne_none u) with z | z
        · rw [z, ha] at e
          rw [← Option.some.inj e] at h1
          exact absurd rfl (h1 _ _)
        · rw [tabAt b z] at e
          rw [← Option.some.inj e] at h2
          exact absurd rfl h2
    have dictFree : ∀ {b : Addr} {o : Obj} {es : Array DictEntry} {ep : Nat}, s₁.heap.get? b = some o → o.data = .dict es ep → H b = none := by
      intro b o es ep e d
      exact untracked e (fun us n z => by rw [d] at z; cases z) (fun z => by rw [d] at z; cases z)
    have nsK : ∀ {b : Addr} {m : Str → Option Value}, s₁.heap.Ns b m → (hidT s₁.heap H).Ns b m := by
      rintro b m ⟨o, es, ep, e, d, r⟩
      exact ⟨o, es, ep, hidT_get e (dictFree e d), d, r⟩
    have kInB : K.In (hidT s₁.heap H) := by
      intro b o e
      refine hidT_get (KX b o e) ?_
      cases q : H b with
      | none => rfl
      | some u =>
        rcases one b (by rw [q]; exact Option.some_ne_none u) with z | z
        · rw [z] at q e
          rw [hK (by rw [q]; exact Option.some_ne_none u)] at e
          cases e
        · obtain ⟨p, hp, rfl⟩ := List.mem_map.mp z
          rw [nT p hp] at e
          cases e
    have md : Mod K mg (hidT s₁.heap H) := ⟨kInB, nsK hns, ⟨mb, nsK hb, hbb⟩, by obtain ⟨mc, h1, h2⟩ := hlim; exact ⟨mc, nsK h1, h2⟩⟩
    have tabB : ∀ p ∈ cs, LamX.TabB (hidT s₁.heap H) mg p.1 p.2 := by
      intro p hp
      have tp := hT p hp
      have gNs := hns
      refine ⟨?_, ?_, ?_⟩
      · obtain ⟨o, us, file, tf, flags, tg, inF, text, tt, e1, r1, r2, r3, rest⟩ := C p hp
        refine ⟨o, us, file, tf, flags, tg, inF, text, tt, hidT_get e1 (untracked e1 (fun _ _ z => by rw [r2] at z; cases z) (fun z => ?_)), r1, r2, r3, rest⟩
        rw [r2] at z
        cases z
        simp at r3
      · obtain ⟨bm, ob, b1, b2, b3, b4, b5, b6⟩ := hbm
        refine ⟨bm, ob, b1, b2, ?_, ?_, hidT_get b3 (untracked b3 (fun _ _ z => by rw [b6] at z; cases z) (fun z => by rw [b6] at z; cases z)), b4, b5, b6⟩
        · intro z
          obtain ⟨o, es, ep, e, d, _⟩ := gNs
          rw [z, e] at b3
          rw [← Option.some.inj b3, d] at b6
          cases b6
        · intro z
          rw [z, tp] at b3
          rw [← Option.some.inj b3] at b6
          cases b6
      · intro z
        obtain ⟨o, es, ep, e, d, _⟩ := gNs
        rw [z, tp] at e
        rw [← Option.some.inj e] at d
        cases d
    have e0 : Env0 P w K mg (hidT s₁.heap H) callerA [] s₁ H :=
      ⟨rfl, md, fun b o e => of_hidT e, Nat.le_of_eq (hidT_size _ _), trivial, fun b z => (List.not_mem_nil z).elim, hok, .of_eq hg⟩
    have goal := (F _ kInB (nsK hns) tabB).run callerA [] s₁ H ⟨[.ref a], []⟩ [.ref a] [.ref a] _ _ hr rfl e0 (hbind s₁ (.ref a)) (.cons rfl .nil) (hsp H tab hS)
    refine codeAny_mono goal ?_
    intro r s' h
    match r, h with
    | .ok (.ret u), ⟨v, H', os, bare, un, hok', r', q⟩ =>
      have q' : v = .bl true := q
      subst q'
      obtain rfl : u = Value.bool true := r'
      have kept : ∀ b o, b ∉ ts → s₁.heap.get? b = some o → s'.heap.get? b = some o := by
        intro b o nb e
        rcases only b nb with z | ⟨ob, xs, z⟩
        · exact un.keep b o e z (fun z => (List.not_mem_nil z).elim) (fun z => (List.not_mem_nil z).elim)
        · obtain ⟨e1, _⟩ := hok b _ z
          obtain ⟨e2, _⟩ := hok' b _ (un.frzs b ob _ z)
          exact e2.trans (e1.symm.trans e)
      have grown : ∀ p ∈ cs, ∃ more : Array Value, s'.heap.get? p.2 = some { cls := .none, data := .fields more } := by
        intro p hp
        obtain ⟨more, z⟩ := un.tbls p.2 #[] (tab p hp)
        exact ⟨_, hok' p.2 _ z⟩
      refine ⟨rfl, ⟨fun b o e => ?_, fun b o e => ?_⟩, os, bare⟩
      · by_cases hb : b ∈ ts
        · obtain ⟨p, hp, rfl⟩ := List.mem_map.mp hb
          obtain ⟨more, hm⟩ := grown p hp
          rw [hT p hp] at e
          have eo := (Option.some.inj e).symm
          subst eo
          exact .inr (.inl ⟨((C p hp).tab (hT p hp)).isCodeTable, rfl, #[], more, rfl, by rw [Array.empty_append]; exact hm⟩)
        · exact .inl (kept b o hb e)
      · by_cases hb : b ∈ ts
        · obtain ⟨p, hp, rfl⟩ := List.mem_map.mp hb
          obtain ⟨more, hm⟩ := grown p hp
          exact ⟨_, hm⟩
        · exact ⟨o, kept b o hb e⟩
  have rv := vals_ints hi
  -- the entry's heap: the tables, and the script where it is no part of K
  let HT : Hp := fun b => if b ∈ ts then some (.tbl #[]) else none
  cases hk : K.lookup a with
  | some o =>
    have e := KX a o hk
    rw [ha] at e
    have e' := Option.some.inj e
    subst e'
    refine main HT (fun p hp => if_pos (inT p hp)) (fun b nb => .inl (if_neg nb)) (.inr ⟨_, vs.toArray, _, hk, rfl, rfl, rfl, ?_, ?_⟩) (fun b u z => ?_) (fun b z => ?_) (fun z => absurd (if_neg aOut) z)
    · rw [List.size_toArray, hi.length]
      exact hl
    · simpa using rv
    · by_cases hb : b ∈ ts
      · have z2 := Option.some.inj ((if_pos hb).symm.trans z)
        subst z2
        exact tabAt b hb
      · exact absurd ((if_neg hb).symm.trans z) (by intro y; cases y)
    · by_cases hb : b ∈ ts
      · exact .inr hb
      · exact absurd (if_neg hb) z
  | none =>
    let HA : Hp := fun b => if b = a then some (HO.frz { cls := .type "list", data := .seq vs.toArray } (.lst (ns.map V.int))) else HT b
    have off : ∀ b, b ≠ a → HA b = HT b := fun b hb => if_neg hb
    refine main HA (fun p hp => ?_) (fun b nb => ?_) (.inl (.inr ⟨_, if_pos rfl⟩)) (fun b u z => ?_) (fun b z => ?_) (fun _ => hk)
    · rw [off p.2 (fun z => aOut (by rw [← z]; exact inT p hp))]
      exact if_pos (inT p hp)
    · by_cases hb : b = a
      · exact .inr ⟨_, _, if_pos hb⟩
      · rw [off b hb]
        exact .inl (if_neg nb)
    · by_cases hb : b = a
      · have z2 := Option.some.inj ((if_pos hb).symm.trans z)
        subst z2
        rw [hb]
        exact ⟨ha, by rw [List.length_map]; exact hl, vs, _, rv, ha⟩
      · rw [off b hb] at z
        by_cases hb2 : b ∈ ts
        · have z2 := Option.some.inj ((if_pos hb2).symm.trans z)
          subst z2
          exact tabAt b hb2
        · exact absurd ((if_neg hb2).symm.trans z) (by intro y; cases y)
    · by_cases hb : b = a
      · exact .inl hb
      · rw [off b hb] at z
        by_cases hb2 : b ∈ ts
        · exact .inr hb2
        · exact absurd (if_neg hb2) z
/-- what is known of the law's promise at the head's heap h -/
def LawAtG (l : PySem.W.OpenLaw) (w : World) (K : PySem.W.Frag) (k n : Nat) (x : Str) (mg : Str → Option Value) (fa : Addr) (h : Heap) : Prop :=
  ∃ (fd : FuncData) (cs : List (Addr × Addr)) (sp : Sp), (∀ p ∈ cs, h.get? p.2 = some { cls := .none, data := .fields #[] }) ∧ (∀ p ∈ cs, K.lookup p.2 = none) ∧ (∀ p ∈ cs, PySem.W.CodeHd h p.1 p.2) ∧ (∀ (s : Shared) (u : Value), BindsTo s fd ⟨[u], []⟩ [(x, u)]) ∧
    (∀ (H : Hp) (a : Addr) (ns : List Int), ns.length ≤ n → (∀ p ∈ cs, H p.2 = some (.tbl #[])) → SqL K H a (ns.map V.int) → sp [.ref a] H (fun v _ => v = .bl true) fun _ _ _ => False) ∧
    ∀ base : Heap, K.In base → base.Ns mainGlobals mg → (∀ p ∈ cs, LamX.TabB base mg p.1 p.2) → FnG l.prog w K mg base CX0 k fa fd [x] sp
theorem walk_ofTG {l : PySem.W.OpenLaw} {n k : Nat} {q : Program} {loose : List Str} {XP : (Str → Option Value) → Heap → Prop} {YP : World → Heap → Prop} {d : DefRec} {K : Params → PySem.W.Frag} {x : Str}
    (hn : l.most = some n) (hn2 : n ≤ sizeLine) (hdf : d.params.defaults = []) (hr : Room k callerA) (hY : ∀ (w : World) (h : Heap), YP w h → (K w.params).In h)
    (F : ∀ (w : World) (mg : Str → Option Value) (fa : Addr) (h : Heap), YP w h → (K w.params).In h → h.Ns mainGlobals mg → mg d.name = some (.ref fa) → LawAtG l w (K w.params) k n x mg fa h) :
    PySem.W.WalkO q loose XP YP l.row.toRowW d [] (fun f vs => PySem.call f vs) := by
  refine Att.attach_call hn hdf ?_
  intro w s₀ s₁ mg mb fa o pm cd doc a vs ns G Y ho hd hcd hmg hobj hints hlen hg
  have KX := hY w _ Y
  obtain ⟨fd, cs, sp, hT, nT, C, hb, hsp, hF⟩ := F w mg fa _ Y KX G.T.g hmg
  exact law_callTG KX G.T.g G.T.b G.T.builtins G.T.nolimit hg hT nT C G.T.bmain hobj hints (Nat.le_trans hlen hn2) hr hF hb (fun H hH hS => hsp H a ns hlen hH hS)
end NB
/-! NBp: what all laws share: the pen, readings one construct at a time, lists told by rows. -/
namespace NB
open PySem L2
/-- the pen: a list of its cells, the number of the next one, what is left of a great one -/
structure Pen (H : Hp) (p c : Addr) (ns : List Int) (i r : Int) : Prop where
  pen : H p = some (.lst [.ref c, .int i, .int r])
  cells : H c = some (.lst (ns.map V.int))
  lo : 0 ≤ i
  few : ns.length ≤ 63
/-- all that was tracked stands, but what is at p -/
def But (p : Addr) (H H' : Hp) : Prop := ∀ a o, a ≠ p → H a = some o → H' a = some o
theorem But.refl (p : Addr) (H : Hp) : But p H H := fun _ _ _ h => h
theorem But.trans {p : Addr} {H H1 H2 : Hp} (a : But p H H1) (b : But p H1 H2) : But p H H2 := fun x o n h => b x o n (a x o n h)
theorem But.upd {p : Addr} {H H' : Hp} {o : HO} (a : But p H H') : But p H (L2.upd H' p o) := fun x u n h => by
  rw [upd_ne n]
  exact a x u n h
theorem But.new {p q : Addr} {H H' : Hp} {o : HO} (a : But p H H') (h : H' q = none) : But p H (L2.upd H' q o) := fun x u n e => by
  have z := a x u n e
  rw [upd_ne (ne_of_none z h)]
  exact z
abbrev penO (c : Addr) (i r : Int) : HO := .lst [.ref c, .int i, .int r]
structure Bi (mg : Str → Option Value) : Prop where
  int : mg "int" = none
  len : mg "len" = none
  abs : mg "abs" = none
  list : mg "list" = none
  range : mg "range" = none
  isinstance : mg "isinstance" = none
  repr : mg "repr" = none
  str : mg "str" = none
  tuple : mg "tuple" = none
  iter : mg "iter" = none
  bool : mg "bool" = none
def spDraw : Sp := fun vs H Q _ => ∃ (p c : Addr) (ns : List Int) (i r many : Int), vs = [.ref p, .int many] ∧ Pen H p c ns i r ∧ i ≤ 10000 ∧ 1 ≤ many ∧ many < 2 ^ 100 ∧
  ∀ (H' : Hp) (i' r' d : Int), But p H H' → Pen H' p c ns i' r' → i ≤ i' → i' ≤ i + 1 → 0 ≤ d → d < many → Q (.int d) H'
theorem dp_ints {K : PySem.W.Frag} {H : Hp} : ∀ ns : List Int, DpAll K H (ns.map V.int) (ns.map PyData.int)
  | [] => .nil
  | n :: ns => .cons (.int n) (dp_ints ns)
theorem canLay_ints : ∀ ns : List Int, PyData.canLayAll0 (ns.map PyData.int) = true
  | [] => rfl
  | n :: ns => by
    show (PyData.canLay0 (.int n) && PyData.canLayAll0 (ns.map PyData.int)) = true
    rw [canLay_ints ns]
    rfl
theorem depth_ints : ∀ ns : List Int, PyData.depthAll (ns.map PyData.int) = 0
  | [] => rfl
  | n :: ns => by
    show max (PyData.depth (.int n)) (PyData.depthAll (ns.map PyData.int)) = 0
    rw [depth_ints ns]
    rfl
theorem shaped_ints (ns : List Int) : SeqAt.shaped (.list (ns.map PyData.int)) = true := by
  unfold SeqAt.shaped
  have h1 : PyData.canLay0 (.list (ns.map PyData.int)) = true := by
    show PyData.canLayAll0 (ns.map PyData.int) = true
    exact canLay_ints ns
  have h2 : PyData.depth (.list (ns.map PyData.int)) = 1 := by
    show PyData.depthAll (ns.map PyData.int) + 1 = 1
    rw [depth_ints]
  rw [h1, h2]
  rfl
/-- text * number -/
theorem op_mul_str {X : Cx} : OpR X (binaryOp .Mult) (fun x y H Q => ∃ (z : Str) (i : Int), x = .str z ∧ y = .int i ∧ z.length ≤ 16 ∧ 0 ≤ i ∧ i ≤ 1000 ∧ Q (.str (Txt.mul z i)) H) := by
  intro pins s σ H x y v u Q I rx ry h
  obtain ⟨z, i, rfl, rfl, h1, h2, h3, q⟩ := h
  obtain ⟨t, rfl⟩ := rx
  obtain ⟨t', rfl⟩ := ry
  exact PySem.W.KXi.mul rfl h1 (by omega) (by omega) fun t' k _ _ => ⟨.str _, H, I.tok _, ⟨_, rfl⟩, q⟩
/-- the heap without what stands at p -/
def hide (p : Addr) (H : Hp) : Hp := fun a => if a = p then none else H a
theorem hide_sub {p : Addr} {H : Hp} : ∀ a o, hide p H a = some o → H a = some o := fun a o h => by
  unfold hide at h
  split at h
  · cases h
  · exact h
theorem hide_of {p a : Addr} {H : Hp} {o : HO} (n : a ≠ p) (h : H a = some o) : hide p H a = some o := by
  unfold hide
  rw [if_neg n]
  exact h
theorem But.hide {p : Addr} {H H' : Hp} (b : But p H H') : ∀ a o, NB.hide p H a = some o → NB.hide p H' a = some o := fun a o h => by
  have n : a ≠ p := by
    intro z
    unfold NB.hide at h
    rw [if_pos z] at h
    cases h
  exact hide_of n (b a o n (hide_sub a o h))
/-- a drawn value: small data, apart from the pen -/
structure Small (d : PyData) : Prop where
  sh : d.showable = true
  dp : d.depth ≤ 10
  ln : d.shown.length ≤ 1000
def Thing (K : PySem.W.Frag) (p : Addr) (H : Hp) (v : V) : Prop := ∃ d, DR K (hide p H) v d ∧ Small d
theorem Thing.keep {K : PySem.W.Frag} {p : Addr} {H H' : Hp} {v : V} (t : Thing K p H v) (b : But p H H') : Thing K p H' v := by
  obtain ⟨d, h, s⟩ := t
  exact ⟨d, h.keep b.hide, s⟩

def spPen (K : PySem.W.Frag) : Sp := fun vs H Q _ => ∃ (a : Addr) (ns : List Int), vs = [.ref a] ∧ SqL K H a (ns.map V.int) ∧ ns.length ≤ 63 ∧
  ∀ (H' : Hp) (p c : Addr) (ms : List Int), Same H H' → H p = none → Pen H' p c ms 0 0 → Q (.ref p) H'
theorem cut_ints (ns : List Int) (lo hi : Option Int) : ∃ ms : List Int, cutV (ns.map V.int) lo hi = ms.map V.int ∧ ms.length ≤ ns.length := by
  refine ⟨(ns.drop (HT.sIx (ns.map V.int).length 0 lo)).take (HT.sIx (ns.map V.int).length (ns.map V.int).length hi - HT.sIx (ns.map V.int).length 0 lo), ?_, ?_⟩
  · unfold cutV
    rw [List.map_take, List.map_drop]
  · rw [List.length_take, List.length_drop]
    omega
def spPick : Sp := fun vs H Q _ => ∃ (p c l : Addr) (ns : List Int) (i r : Int) (xs : List V), vs = [.ref p, .ref l] ∧ Pen H p c ns i r ∧ i ≤ 10000 ∧ l ≠ p ∧ H l = some (.lst xs) ∧ 1 ≤ xs.length ∧ xs.length ≤ 1000 ∧
  ∀ (H' : Hp) (i' r' : Int) (v : V), But p H H' → Pen H' p c ns i' r' → i ≤ i' → i' ≤ i + 1 → v ∈ xs → Q v H'
structure DefOf (P : Program) (w : World) (K : PySem.W.Frag) (mg : Str → Option Value) (base : Heap) (x : Str) (k : Nat) (ps : List Str) (sp : Sp) : Prop where
  ex : ∃ (f : Addr) (fd : FuncData), FnOk P w K mg base CX0 k f fd ps sp ∧ mg x = some (.ref f) ∧ PySem.W.keepIn K (.ref f) = true ∧ Binds K fd ps []
theorem fresh_upd {H : Hp} {a b : Addr} {o : HO} (h : upd H a o b = none) : b ≠ a ∧ H b = none := by
  by_cases z : b = a
  · rw [z, upd_same] at h
    cases h
  · rw [upd_ne z] at h
    exact ⟨z, h⟩
theorem Thing.at_ {K : PySem.W.Frag} {p : Addr} {H : Hp} {v : V} {d : PyData} (h : DR K (hide p H) v d) (s : Small d) : Thing K p H v := ⟨d, h, s⟩
theorem Paired.at_ {α β : Type} {F : α → β → Prop} : ∀ {l₁ : List α} {l₂ : List β} {i : Nat} {a : α}, Paired F l₁ l₂ → l₁[i]? = some a → ∃ b, l₂[i]? = some b ∧ F a b
  | _, _, _, _, .nil, e => by simp at e
  | _, _, 0, _, .cons r _, e => by
    simp at e
    subst e
    exact ⟨_, rfl, r⟩
  | _, _, i + 1, _, .cons _ t, e => by
    obtain ⟨b, h1, h2⟩ := Paired.at_ (i := i) t (by simpa using e)
    exact ⟨b, by simpa using h1, h2⟩
theorem ref_at {ts : List Addr} {i : Nat} {x : V} (h : (ts.map V.ref)[i]? = some x) : ∃ t, ts[i]? = some t ∧ x = .ref t := by
  rw [List.getElem?_map] at h
  cases e : ts[i]? with
  | none =>
    rw [e] at h
    cases h
  | some t =>
    rw [e] at h
    exact ⟨t, rfl, (Option.some.inj h).symm⟩
theorem Paired.imp2 {α β : Type} {F G : α → β → Prop} : ∀ {l₁ : List α} {l₂ : List β}, Paired F l₁ l₂ → (∀ a b, F a b → G a b) → Paired G l₁ l₂
  | _, _, .nil, _ => .nil
  | _, _, .cons r t, f => .cons (f _ _ r) (Paired.imp2 t f)
theorem Paired.app {α β : Type} {F : α → β → Prop} : ∀ {l₁ m₁ : List α} {l₂ m₂ : List β}, Paired F l₁ l₂ → Paired F m₁ m₂ → Paired F (l₁ ++ m₁) (l₂ ++ m₂)
  | _, _, _, _, .nil, h => h
  | _, _, _, _, .cons r t, h => .cons r (Paired.app t h)
theorem same_new {H H' : Hp} {a : Addr} {o : HO} (s : Same H H') (h : H' a = none) : Same H (upd H' a o) := fun b u e => by
  have z := s b u e
  rw [upd_ne (ne_of_none z h)]
  exact z
/-- e is an error of the class at C -/
structure ErrAt (K : PySem.W.Frag) (H : Hp) (e C : Addr) : Prop where
  ex : ∃ (d : Option Addr) (fs : List (Str × V)), IsEx H e C d ∧ XFs H d fs
  ec : ExcC K C
theorem ErrAt.keep {K : PySem.W.Frag} {H H' : Hp} {e C : Addr} (h : ErrAt K H e C) (s : Same H H') : ErrAt K H' e C := by
  obtain ⟨⟨d, fs, x, y⟩, z⟩ := h
  exact ⟨⟨d, fs, x.keep s, y.keep s⟩, z⟩
/-- isinstance of it -/
theorem isx {K : PySem.W.Frag} {H : Hp} {e C D : Addr} {b : Bool} {Q : VK} (h : ErrAt K H e C) (k : PySem.W.kitOne K (.ref C) (.ref D) = some b) (q : Q (.bl b) H) : rIsX K [.ref e, .ref D] H Q := by
  obtain ⟨⟨d, fs, x, y⟩, z⟩ := h
  exact ⟨e, C, d, fs, .ref D, .ref D, b, rfl, x, y, z, .own D, k, q⟩
/-! readings, one construct at a time -/
section
variable {σ : SV} {H : Hp} {D : Ends} {te ta tb : TE} {t : TA} {Q : VK} {QA : List V → Hp → Prop} {i : Nat} {r : R2} {rc : List V → Hp → VK → Prop} {v : V}
theorem rd_asg (h : te σ H fun v H' => D.nx (σ.set i (some v)) H') : tAsg te (gName i) D σ H := h
theorem rd_lst (h : t σ H fun xs H1 => xs.length ≤ sizeLine ∧ ∀ p, H1 p = none → Q (.ref p) (upd H1 p (.lst xs))) : tLst t σ H Q := h
theorem rd_tup (h : t σ H fun xs H1 => xs.length ≤ sizeLine ∧ ∀ p, H1 p = none → Q (.ref p) (upd H1 p (.tup xs))) : tTup t σ H Q := h
theorem rd_cons (h : te σ H fun x H1 => t σ H1 fun xs H2 => QA (x :: xs) H2) : tCons te t σ H QA := h
theorem rd_nil (h : QA [] H) : tNil σ H QA := h
theorem rd_op (h : ta σ H fun x H1 => tb σ H1 fun y H2 => r x y H2 Q) : tOp r ta tb σ H Q := h
theorem rd_cb (h : t σ H fun vs H1 => rc vs H1 Q) : tCB rc t σ H Q := h
theorem rd_var (h : σ[i]? = some (some v)) (q : Q v H) : tVar i σ H Q := ⟨v, h, q⟩
theorem rd_c (q : Q v H) : tC v σ H Q := q
end
section
variable {σ : SV} {H : Hp} {D : Ends} {te ta tb : TE} {tt : TT} {Q : VK} {QB : Bool → Hp → Prop} {K : PySem.W.Frag} {e C S : Addr} {b : Bool} {i : Nat}
theorem rd_ret (h : te σ H D.rt) : tRet te D σ H := h
theorem rd_ifE (h : tt σ H fun c H1 => if c = true then ta σ H1 Q else tb σ H1 Q) : tIf tt ta tb σ H Q := h
theorem rd_b (h : te σ H fun x H1 => ∃ c, x = .bl c ∧ QB c H1) : tB te σ H QB := h
theorem rd_isi (h0 : σ[i]? = some (some (.ref e))) (he : ErrAt K H e C) (k : PySem.W.kitOne K (.ref C) (.ref S) = some b) (q : Q (.bl b) H) :
    tCB (rIsX K) (tCons (tVar i) (tCons (tC (.ref S)) tNil)) σ H Q := rd_cb (rd_cons (rd_var h0 (rd_cons (rd_c (rd_nil (isx he k q))))))
end
/-- what the __init__ of an error of the package does: it keeps its fields -/
def spI (C : Addr) (fl : List Str) : Sp := fun vs H Q _ => ∃ (a : Addr) (ws : List V), vs = .ref a :: ws ∧ ws.length = fl.length ∧ H a = some (exo a C none) ∧
  ∀ (H' : Hp) (d : Addr), But a H H' → H d = none → H' a = some (exo a C (some d)) → H' d = some (exd d (fl.zip ws).reverse) → Q .non H'
def KwB (fd : FuncData) (fl : List Str) : Prop := ∀ (s' : Shared) (u : Value) (ws : List Value), ws.length = fl.length → BindsTo s' fd ⟨[u], fl.reverse.zip ws⟩ ((("self" : Str) :: fl).zip (u :: ws.reverse))
structure Err (P : Program) (w : World) (K : PySem.W.Frag) (mg : Str → Option Value) (base : Heap) (x : Str) (fl : List Str) (C : Addr) : Prop where
  mgC : mg x = some (.ref C)
  oex : OexC K C
  xf : XfC K C
  ec : ExcC K C
  nf : ∀ f ∈ fl, PySem.W.findIn K (.ref C) f = some none
  ini : ∃ (fI : Addr) (fd : FuncData), PySem.W.findIn K (.ref C) "__init__" = some (some (.ref fI)) ∧ PySem.W.typeIn K (.ref fI) = some (.type "function") ∧
    FnOk P w K mg base CX0 1 fI fd ("self" :: fl) (spI C fl) ∧ Binds K fd ("self" :: fl) [] ∧ KwB fd fl
theorem mk_err {C : Addr} {fl : List Str} {ws : List V} {H : Hp} {Q : VK} (hl : ws.length = fl.length) (hz : fl.length ≤ 1000)
    (h : ∀ (H' : Hp) (a d : Addr), Same H H' → H a = none → H' a = some (exo a C (some d)) → H' d = some (exd d (fl.zip ws).reverse) → Q (.ref a) H') :
    ws.length ≤ 1000 ∧ ∀ a, H a = none → spI C fl (.ref a :: ws) (upd H a (exo a C none)) (fun v H2 => v = .non ∧ Q (.ref a) H2) E0 := by
  refine ⟨by omega, fun a ha => ⟨a, ws, rfl, hl, upd_same, fun H' d b hd ea ed => ⟨rfl, ?_⟩⟩⟩
  refine h H' a d (fun x o e => ?_) ha ea ed
  have n := ne_of_none e ha
  exact b x o n (by rw [upd_ne n]; exact e)
/-! lists of objects that are told by rows -/
section
variable {ρ : Type} {F : Hp → Addr → ρ → Prop}
def Mono (F : Hp → Addr → ρ → Prop) : Prop := ∀ H H' t r, Same H H' → F H t r → F H' t r
def LRows (F : Hp → Addr → ρ → Prop) (H : Hp) (l : Addr) (rs : List ρ) : Prop := ∃ ts : List Addr, H l = some (.lst (ts.map V.ref)) ∧ Paired (F H) ts rs
theorem LRows.keep (m : Mono F) {H H' : Hp} {l : Addr} {rs : List ρ} (h : LRows F H l rs) (s : Same H H') : LRows F H' l rs := by
  obtain ⟨ts, e, p⟩ := h
  exact ⟨ts, s _ _ e, Paired.imp2 p fun t r z => m _ _ t r s z⟩
/-- an item's reading -/
def ItE (te : TE) (σ : SV) (H : Hp) (F : Hp → Addr → ρ → Prop) (r : ρ) : Prop := ∀ H1, Same H H1 → ∀ Q : VK, (∀ H2 t, Same H1 H2 → F H2 t r → Q (.ref t) H2) → te σ H1 Q
def ItA (ta : TA) (σ : SV) (H : Hp) (F : Hp → Addr → ρ → Prop) (rs : List ρ) : Prop := ∀ H1, Same H H1 → ∀ Q : List V → Hp → Prop, (∀ H2 (ts : List Addr), Same H1 H2 → Paired (F H2) ts rs → Q (ts.map V.ref) H2) → ta σ H1 Q
variable {te : TE} {ta : TA} {σ : SV} {H : Hp} {r : ρ} {rs rs0 : List ρ} {Q : VK}
theorem ia_nil : ItA tNil σ H F ([] : List ρ) := fun H1 _ Q q => q H1 [] (Same.refl _) .nil
theorem ia_cons (m : Mono F) (h1 : ItE te σ H F r) (h2 : ItA ta σ H F rs) : ItA (tCons te ta) σ H F (r :: rs) := fun H1 s1 Q q =>
  rd_cons (h1 H1 s1 _ fun H2 t s2 f => h2 H2 (s1.trans s2) _ fun H3 ts s3 p => q H3 (t :: ts) (s2.trans s3) (.cons (m _ _ _ _ s3 f) p))
theorem rd_lrows (m : Mono F) (h : ItA ta σ H F rs) (hz : rs.length ≤ 100) (q : ∀ H' l, Same H H' → LRows F H' l rs → Q (.ref l) H') : tLst ta σ H Q := by
  refine rd_lst (h H (Same.refl _) _ fun H1 ts s1 p => ?_)
  have lt : ts.length = rs.length := Paired.length p
  refine ⟨?_, fun l hl => ?_⟩
  · rw [List.length_map, lt, sizeLine_eq]
    omega
  · have s2 := same_new (o := .lst (ts.map V.ref)) (Same.refl H1) hl
    exact q _ l (s1.trans s2) ⟨ts, upd_same, Paired.imp2 p fun t r z => m _ _ t r s2 z⟩
theorem rd_lcat {i : Nat} {l : Addr} (m : Mono F) (hv : σ[i]? = some (some (.ref l))) (h0 : LRows F H l rs0) (h : ItA ta σ H F rs) (hz : rs0.length + rs.length ≤ 100)
    (q : ∀ H' l', Same H H' → LRows F H' l' (rs0 ++ rs) → Q (.ref l') H') : tOp rCat (tVar i) (tLst ta) σ H Q := by
  refine rd_op (rd_var hv (rd_lst (h H (Same.refl _) _ fun H1 ts s1 p => ?_)))
  obtain ⟨t0, e0, p0⟩ := h0
  have l0 : t0.length = rs0.length := Paired.length p0
  have lt : ts.length = rs.length := Paired.length p
  refine ⟨?_, fun b hb => ?_⟩
  · rw [List.length_map, lt, sizeLine_eq]
    omega
  · have s2 := same_new (o := .lst (ts.map V.ref)) (Same.refl H1) hb
    refine ⟨l, b, _, _, rfl, rfl, (s1.trans s2) _ _ e0, upd_same, ?_, fun g hg => ?_⟩
    · rw [List.length_map, List.length_map, lt, l0, sizeLine_eq]
      omega
    · have s3 := same_new (o := .lst (t0.map V.ref ++ ts.map V.ref)) s2 hg
      refine q _ g (s1.trans s3) ⟨t0 ++ ts, ?_, Paired.app (Paired.imp2 p0 fun t r z => m _ _ t r (s1.trans s3) z) (Paired.imp2 p fun t r z => m _ _ t r s3 z)⟩
      rw [List.map_append]
      exact upd_same
end
theorem vals_rev : ∀ {zs : List V} {ws : List Value}, Vals zs ws → Vals zs.reverse ws.reverse
  | _, _, .nil => .nil
  | _, _, .cons (a := a) (b := b) r t => by
    rw [List.reverse_cons, List.reverse_cons]
    exact (vals_rev t).append (.cons r .nil)
theorem upd_past {H : Hp} {B g : Addr} {o o' u : HO} (h : g ≠ B) : upd (upd (upd H B o) g u) B o' = upd (upd H g u) B o' := by
  funext x
  by_cases z : x = B
  · rw [z, upd_same, upd_same]
  · rw [upd_ne z, upd_ne z]
    by_cases y : x = g
    · rw [y, upd_same, upd_same]
    · rw [upd_ne y, upd_ne y, upd_ne z]
theorem rd_seq {t1 t2 : TS} {D : Ends} {σ : SV} {H : Hp} (h : t1 { D with nx := t2 D } σ H) : tSeq t1 t2 D σ H := h
theorem rd_sa {te : TE} {i : Nat} {t2 : TS} {D : Ends} {σ : SV} {H : Hp} (h : te σ H fun v H' => t2 D (σ.set i (some v)) H') : tSeq (tAsg te (gName i)) t2 D σ H := h
theorem rd_sp {ta : TA} {i j : Nat} {t2 : TS} {D : Ends} {σ : SV} {H : Hp} (h : ta σ H fun vs H1 => ∃ v w, vs = [v, w] ∧ t2 D ((σ.set i (some v)).set j (some w)) H1) : tSeq (tPar i j ta) t2 D σ H := h
theorem rd_sp3 {ta : TA} {i j l : Nat} {t2 : TS} {D : Ends} {σ : SV} {H : Hp} (h : ta σ H fun vs H1 => ∃ u v w, vs = [u, v, w] ∧ t2 D (((σ.set i (some u)).set j (some v)).set l (some w)) H1) : tSeq (tPar3 i j l ta) t2 D σ H := h
theorem rd_keep {T F : Hp → Prop} {σ : SV} {H : Hp} (h : T H) : tYes σ H (fun b H3 => if b = true then T H3 else F H3) := by
  show (if true = true then T H else F H)
  rw [if_pos rfl]
  exact h
/-- an error with its field -/
def ErrF (H : Hp) (a C : Addr) (f : Str) (v : V) : Prop := ∃ (d : Addr) (fs : List (Str × V)), H a = some (exo a C (some d)) ∧ H d = some (exd d fs) ∧ fs.lookup f = some v
theorem ErrF.keep {H H' : Hp} {a C : Addr} {f : Str} {v : V} (h : ErrF H a C f v) (s : Same H H') : ErrF H' a C f v := by
  obtain ⟨d, fs, x, y, z⟩ := h
  exact ⟨d, fs, s _ _ x, s _ _ y, z⟩
theorem ErrF.at_ {K : PySem.W.Frag} {H : Hp} {a C : Addr} {f : Str} {v : V} (h : ErrF H a C f v) (T : ExcC K C) : ErrAt K H a C := by
  obtain ⟨d, fs, x, y, z⟩ := h
  exact ⟨⟨some d, fs, .new x, .have_ (.new y)⟩, T⟩
section
variable {P : Program} {w : World} {K : PySem.W.Frag} {mg : Str → Option Value} {base : Heap} {x f : Str} {C : Addr} {σ : SV} {H : Hp} {i : Nat} {v : V} {Q : VK} {s : Str}
theorem rd_efld {a : Addr} (h0 : σ[i]? = some (some (.ref a))) (E : ErrF H a C f v) (T : XfC K C) (hn : PySem.W.findIn K (.ref C) f = some none) (q : Q v H) : tEfld K f (tVar i) σ H Q := by
  obtain ⟨d, fs, e1, e2, e3⟩ := E
  exact ⟨_, h0, a, C, d, fs, v, rfl, .new e1, .new e2, T, hn, e3, q⟩
theorem one_fs : (([f] : List Str).zip [v]).reverse.lookup f = some v := by
  show (([(f, v)] : List (Str × V))).lookup f = some v
  simp [List.lookup]
abbrev tPos (C : Addr) (f : Str) (i : Nat) : TE := tExv C (spI C [f]) (tCons (tVar i) tNil)
abbrev tKw (C : Addr) (f : Str) (i : Nat) : TE := tExv C (spI C [f]) fun σ H Q => tCons (tVar i) tNil σ H fun zs H1 => zs.length = ([f] : List Str).reverse.length ∧ Q zs.reverse H1
theorem rd_pos (h0 : σ[i]? = some (some v)) (q : ∀ H' a, Same H H' → ErrF H' a C f v → Q (.ref a) H') : tPos C f i σ H Q := by
  refine ⟨v, h0, mk_err rfl (by show 1 ≤ 1000; decide) fun H' a d s1 _ e1 e2 => q H' a s1 ⟨d, _, e1, e2, one_fs⟩⟩
theorem rd_kw (h0 : σ[i]? = some (some v)) (q : ∀ H' a, Same H H' → ErrF H' a C f v → Q (.ref a) H') : tKw C f i σ H Q := by
  refine ⟨v, h0, rfl, mk_err rfl (by show 1 ≤ 1000; decide) fun H' a d s1 _ e1 e2 => q H' a s1 ⟨d, _, e1, e2, one_fs⟩⟩
end
section
variable {K : PySem.W.Frag} {σ : SV} {H : Hp} {i j : Nat} {te : TE} {Q : VK} {QB : Bool → Hp → Prop}
theorem rd_test {te : TE} (h : te σ H fun x H' => ∃ k, x = .bl k ∧ QB k H') : tTest te σ H QB := h
theorem rd_repr {v : V} {d : PyData} (h0 : σ[i]? = some (some v)) (hd : DR K H v d) (sm : Small d) (q : Q (.str d.shown) H) : tCB (rRepr K) (tCons (tVar i) tNil) σ H Q :=
  ⟨v, h0, v, d, rfl, hd, sm.sh, Nat.le_trans sm.dp (by decide), Nat.le_trans sm.ln (by decide), q⟩
theorem ne_same {z : Str} (q : QB false H) : rNe (.str z) (.str z) H fun x H' => ∃ k, x = .bl k ∧ QB k H' := by
  refine ⟨rfl, false, ?_, q⟩
  show V.bl (!decide (V.str z = V.str z)) = V.bl false
  rw [decide_eq_true rfl]
  rfl
theorem rd_or {A B : TT} (h : A σ H fun c H1 => if c = true then QB true H1 else B σ H1 QB) : tOr A B σ H QB := h
theorem rd_andV {ta tb : TE} (h : ta σ H fun x H1 => ∃ c, x = .bl c ∧ if c = true then tb σ H1 Q else Q (.bl false) H1) : tAndV ta tb σ H Q := h
theorem rd_ifs {A : TT} {t u : TS} {DD : Ends} (h : A σ H fun b H1 => if b = true then t DD σ H1 else u DD σ H1) : tIfS A t u DD σ H := h
theorem rd_sif0 {A : TT} {t t2 : TS} {DD : Ends} (h : A σ H fun b H1 => if b = true then t { DD with nx := t2 DD } σ H1 else t2 DD σ H1) : tSeq (tIfS A t tNext) t2 DD σ H := h
theorem rd_if0 {A : TT} {t : TS} {DD : Ends} (h : A σ H fun b H1 => if b = true then t DD σ H1 else DD.nx σ H1) : tIfS A t tNext DD σ H := h
theorem rd_lstM {ta : TA} (h : ta σ H fun xs H1 => xs.length ≤ sizeLine ∧ ∀ p, H1 p = none → p ≠ sysModules → Q (.ref p) (upd H1 p (.lst xs))) : tLstM ta σ H Q := h
theorem rd_sif {A : TT} {t u t2 : TS} {DD : Ends} (h : A σ H fun b H1 => if b = true then t { DD with nx := t2 DD } σ H1 else u { DD with nx := t2 DD } σ H1) : tSeq (tIfS A t u) t2 DD σ H := h
end
/-! how long a shown list is -/
theorem textFrom_le : ∀ (ts : List Str) (k : Nat) (acc : Str) (m : Nat), (∀ t ∈ ts, t.length ≤ m) → (textFrom k acc ts).length ≤ acc.length + ts.length * (m + 2)
  | [], k, acc, m, _ => by
    show acc.length ≤ acc.length + 0 * (m + 2)
    omega
  | t :: ts, k, acc, m, h => by
    have ih := textFrom_le ts (k + 1) (acc ++ (if k > 0 then ", " else "" : String) ++ t) m fun x hx => h x (List.mem_cons_of_mem _ hx)
    have ht := h t (List.mem_cons_self ..)
    have e : (acc ++ (if k > 0 then ", " else "" : String) ++ t : Str).length ≤ acc.length + 2 + t.length := by
      rw [strLen_append, strLen_append]
      have : (Str.ofString (if k > 0 then ", " else "" : String)).length ≤ 2 := by
        split
        · decide
        · decide
      omega
    show (textFrom (k + 1) (acc ++ (if k > 0 then ", " else "" : String) ++ t) ts).length ≤ acc.length + (ts.length + 1) * (m + 2)
    have : (ts.length + 1) * (m + 2) = ts.length * (m + 2) + (m + 2) := Nat.succ_mul _ _
    omega
theorem small_list {ds : List PyData} (h : ∀ d ∈ ds, Small d) (hz : ds.length ≤ 10) : (PyData.list ds).showable = true ∧ (PyData.list ds).depth ≤ 60 ∧ (PyData.list ds).shown.length ≤ sizeLine := by
  have a1 : ∀ ds : List PyData, (∀ d ∈ ds, Small d) → PyData.showableAll ds = true ∧ PyData.depthAll ds ≤ 10 ∧ (∀ t ∈ PyData.shownAll ds, t.length ≤ 1000) ∧ (PyData.shownAll ds).length = ds.length := by
    intro ds
    induction ds with
    | nil =>
      intro _
      exact ⟨rfl, Nat.zero_le _, (fun t ht => by cases ht), rfl⟩
    | cons d ds ih =>
      intro h
      obtain ⟨i1, i2, i3, i4⟩ := ih fun x hx => h x (List.mem_cons_of_mem _ hx)
      have s := h d (List.mem_cons_self ..)
      refine ⟨?_, ?_, ?_, ?_⟩
      · show (PyData.showable d && PyData.showableAll ds) = true
        rw [s.sh, i1]
        rfl
      · show max (PyData.depth d) (PyData.depthAll ds) ≤ 10
        exact Nat.max_le.mpr ⟨s.dp, i2⟩
      · intro t ht
        rcases List.mem_cons.mp (show t ∈ PyData.shown d :: PyData.shownAll ds from ht) with rfl | ht
        · exact s.ln
        · exact i3 t ht
      · show (PyData.shownAll ds).length + 1 = ds.length + 1
        rw [i4]
  obtain ⟨i1, i2, i3, i4⟩ := a1 ds h
  refine ⟨i1, ?_, ?_⟩
  · show PyData.depthAll ds + 1 ≤ 60
    omega
  · show (listText (PyData.shownAll ds)).length ≤ sizeLine
    unfold listText
    rw [strLen_append]
    have e := textFrom_le (PyData.shownAll ds) 0 "[" 1000 i3
    rw [i4] at e
    have e1 : ("[" : Str).length = 1 := rfl
    have e2 : (Str.ofString "]").length = 1 := rfl
    rw [e1] at e
    rw [e2, sizeLine_eq]
    have : ds.length * (1000 + 2) ≤ 10 * (1000 + 2) := Nat.mul_le_mul_right _ hz
    omega
/-- repr of a new list -/
theorem rp_list {K : PySem.W.Frag} {H : Hp} {p : Addr} {vs : List V} {ds : List PyData} {Q : VK} (np : p ≠ sysModules) (hp : H p = some (.lst vs)) (hd : DRs K H vs ds) (h : ∀ d ∈ ds, Small d) (hz : ds.length ≤ 10) (q : Q (.str (PyData.list ds).shown) H) : rRepr K [.ref p] H Q := by
  obtain ⟨h1, h2, h3⟩ := small_list h hz
  exact ⟨.ref p, .list ds, rfl, .lst np (SqL.of hp) hd, h1, h2, h3, q⟩
end NB
/-! NBs: o in [..], built-in values in the list, by o's own __eq__. -/
namespace NB
open PySem PySem.Spec PyProof.Rows L2 PySem.SeqAt
open AutoSeq1 (wpAny_loadPart')
open MeetsSeq MeetsSeq2 MeetsSeq3 SeqRoads2
section
variable {X : Cx} {CX : CXT} {k : Nat} {C : Addr} {sp : Sp} {E : XK} {A : Around} {pins : List (Addr × Obj)} {σ : L2.St} {H : Hp} {s : Shared}
theorem eqR_at (M : OwnM X CX k C "__eq__" sp) (sb : Sub X k A) (hx : Passes CX X E) (I : Inv X pins σ H s) {x : V} {u : Value} {b : Addr} (rx : RelV x u) {Q : VK} (h : rEqR X.K C sp E x (.ref b) H Q) :
    wpAny (model X.prog X.w) A (richCompare .Eq u (.ref b)) (EP X pins σ Q) X.xe s := by
  obtain ⟨f, fd, ps, F, hb, hs, hf⟩ := M.ex
  obtain ⟨b', dy, fs, T, eb, hy, lf, sub, q⟩ := h
  cases eb
  obtain ⟨mA, J0, _⟩ := ins_get I.hok hy
  obtain ⟨od, J, _⟩ := J0.look
  obtain ⟨Pt, Z, pt, _⟩ := kit_of I rx (lf.ty (K := X.K))
  obtain ⟨m, hF⟩ := I.fr
  have fin : wpAny (model X.prog X.w) A (call (.ref f) [.ref b, u]) (PySem.W.CmpBack (EP X pins σ Q)) X.xe s := by
    refine wpAny_mono (run_at F sb hb hx I (.cons rel_ref (.cons rx .nil)) q) ?_ fun _ _ z => z
    rintro w s' ⟨z, H', I', rz, b, rfl, qb⟩
    cases rz
    exact ⟨.bl b, H', I', rfl, qb⟩
  have ty := Z.ty (model X.prog X.w) _ I.kIn pt
  have kIn := I.kIn
  have hu := sb.room.units0
  cases lf with
  | non =>
    cases (show u = Value.none from rx)
    exact PySem.W.nb_eqR hu hF I.ok.mod.kin J ty sub rfl (fun Q q => PySem.W.nb_dec_none Q q) hs hf fin
  | bl i =>
    cases (show u = Value.bool i from rx)
    exact PySem.W.nb_eqR hu hF I.ok.mod.kin J ty sub rfl (fun Q q => PySem.W.nb_dec_bool J0.obj rfl Q q) hs hf fin
  | int i =>
    obtain ⟨t, rfl⟩ := (show ∃ t, u = Value.int i t from rx)
    exact PySem.W.nb_eqR hu hF I.ok.mod.kin J ty sub rfl (fun Q q => PySem.W.nb_dec_int J0.obj rfl Q q) hs hf fin
  | str z =>
    obtain ⟨t, rfl⟩ := (show ∃ t, u = Value.str z t from rx)
    exact PySem.W.nb_eqR hu hF I.ok.mod.kin J ty sub rfl (fun Q q => PySem.W.nb_dec_str J0.obj rfl Q q) hs hf fin
  | @tup a xs e =>
    cases (show u = Value.ref a from rx)
    obtain ⟨_, its, _, ob, e1, c1⟩ := (show ObjOk _ _ H s.heap a (.tup xs) from I.hok a _ e)
    exact PySem.W.nb_eqR hu hF I.ok.mod.kin J ty sub rfl (fun Q q => PySem.W.nb_dec_tup kIn J e1 c1.1 sub Q q) hs hf fin
  | @lst a xs e =>
    cases (show u = Value.ref a from rx)
    obtain ⟨_, its, n, _, e1⟩ := (show ObjOk _ _ H s.heap a (.lst xs) from I.hok a _ e)
    exact PySem.W.nb_eqR hu hF I.ok.mod.kin J ty sub rfl (fun Q q => PySem.W.nb_dec_lst kIn J e1 rfl sub Q q) hs hf fin
theorem eqB_at (M : OwnM X CX k C "__eq__" sp) (sb : Sub X k A) (hx : Passes CX X E) (I : Inv X pins σ H s) {x : V} {u : Value} {b : Addr} (rx : RelV x u) (h : rEqR X.K C sp E x (.ref b) H (fun v H' => v = .bl false ∧ H' = H)) :
    wpAny (model X.prog X.w) A (eqBool u (.ref b)) (fun v s' => v = false ∧ Inv X pins σ H s') X.xe s := by
  have key : wpAny (model X.prog X.w) A (richCompare .Eq u (.ref b)) (fun v s' => v = .bool false ∧ Inv X pins σ H s') X.xe s := by
    refine wpAny_mono (eqR_at M sb hx I rx h) ?_ fun _ _ z => z
    rintro w s' ⟨z, H', I', rz, rfl, rfl⟩
    cases rz
    exact ⟨rfl, I'⟩
  have two : wpAny (model X.prog X.w) A (richCompare .Eq u (.ref b) >>= fun r => truthOfDropped r) (fun v s' => v = false ∧ Inv X pins σ H s') X.xe s := by
    refine wpAny_bind (wpAny_mono key ?_ fun _ _ z => z)
    rintro w s' ⟨rfl, I'⟩
    exact wpAny_truthy_bool ⟨rfl, I'⟩
  obtain ⟨b', dy, fs, T, eb, hy, lf, _⟩ := h
  cases eb
  unfold eqBool
  refine wpAny_holding ?_
  cases lf with
  | non =>
    cases (show u = Value.none from rx)
    exact wpAny_ite_split (fun hab => absurd (eq_of_beq hab) nofun) (fun _ => two)
  | bl i =>
    cases (show u = Value.bool i from rx)
    exact wpAny_ite_split (fun hab => absurd (eq_of_beq hab) nofun) (fun _ => two)
  | int i =>
    obtain ⟨t, rfl⟩ := (show ∃ t, u = Value.int i t from rx)
    exact wpAny_ite_split (fun hab => absurd (eq_of_beq hab) nofun) (fun _ => two)
  | str z =>
    obtain ⟨t, rfl⟩ := (show ∃ t, u = Value.str z t from rx)
    exact wpAny_ite_split (fun hab => absurd (eq_of_beq hab) nofun) (fun _ => two)
  | @tup a xs e =>
    cases (show u = Value.ref a from rx)
    refine wpAny_ite_split (fun hab => ?_) (fun _ => two)
    cases eq_of_beq hab
    rw [hy] at e
    cases e
  | @lst a xs e =>
    cases (show u = Value.ref a from rx)
    refine wpAny_ite_split (fun hab => ?_) (fun _ => two)
    cases eq_of_beq hab
    rw [hy] at e
    cases e
theorem in_loopO (M : OwnM X CX k C "__eq__" sp) (sb : Sub X k A.in1) (hx : Passes CX X E) {l b : Addr} {xs : List V} (hall : ∀ x ∈ xs, rEqR X.K C sp E x (.ref b) H (fun v H' => v = .bl false ∧ H' = H)) (hl : H l = some (.lst xs)) {R : Result → Shared → Prop}
    (fin : ∀ s', Inv X pins σ H s' → R (.ok (.ret (.bool false))) s') (herr : ∀ e s', X.xe e s' → R (.error e) s') (j : Nat) :
    ∀ (i : Nat) (s : Shared), xs.length - i = j → Inv X pins σ H s → wpAny (model X.prog X.w) A.in1 (Builtin.«list.__contains__.loop» ⟨[.ref l, .ref b, rawInt i], []⟩)
      (fun fin s' => match fin with | .done f => R (.ok f) s' | .again c' => c'.quiet = true ∧ codeAny (model X.prog X.w) A c' R s') (fun e s' => R (.error e) s') s := by
  induction j with
  | zero =>
    intro i s hk I
    obtain ⟨_, its, n, rv, e1⟩ := (show ObjOk _ _ H s.heap l (.lst xs) from I.hok l _ hl)
    have lz : xs.length = its.length := rv.length
    obtain ⟨hp, g, d, tk, os⟩ := s
    wp_walk using wpAny_loadPart' e1
    have hi : its.toArray[((i : Nat) : Int).toNat]? = none := by simp; omega
    rw [hi]
    wp_walk
    exact fin _ I
  | succ j ih =>
    intro i s hk I
    obtain ⟨_, its, n, rv, e1⟩ := (show ObjOk _ _ H s.heap l (.lst xs) from I.hok l _ hl)
    have lz : xs.length = its.length := rv.length
    have hlt : i < its.length := by omega
    have hltx : i < xs.length := by omega
    obtain ⟨hp, g, d, tk, os⟩ := s
    wp_walk using wpAny_loadPart' e1
    have hi : its.toArray[((i : Nat) : Int).toNat]? = some its[i] := by simp [hlt]
    rw [hi]
    have hq := hall _ (List.getElem_mem hltx)
    have rx : RelV xs[i] its[i] := by
      obtain ⟨u, h1, h2⟩ := NB.Paired.at_ rv (List.getElem?_eq_getElem hltx)
      rw [List.getElem?_eq_getElem hlt] at h1
      cases h1
      exact h2
    have step : wpAny (model X.prog X.w) A.in1 (eqBool its[i] (.ref b)) (fun v s' => v = false ∧ Inv X pins σ H s') X.xe ⟨hp, g, d, tk, os⟩ := eqB_at M sb hx I rx hq
    refine wpAny_bind (wpAny_mono step ?_ fun e s' z => herr e s' z)
    rintro v s' ⟨rfl, I'⟩
    have hc : ((i : Int) + 1) = ((i + 1 : Nat) : Int) := by push_cast; rfl
    wp_walk
    rw [hc]
    exact ⟨plainId_quiet plain_contains_loop _, codeAny_builtin entry_contains_loop (by
      rw [Around.under_plainId plain_contains_loop _]
      exact ih (i + 1) s' (by omega) I')⟩
def rInR (K : PySem.W.Frag) (C : Addr) (sp : Sp) (E : XK) : R2 := fun x y H Q => ∃ (b l : Addr) (xs : List V), x = .ref b ∧ y = .ref l ∧ H l = some (.lst xs) ∧ (∀ z ∈ xs, rEqR K C sp E z (.ref b) H (fun v H' => v = .bl false ∧ H' = H)) ∧ Q (.bl false) H
theorem op_inR (M : OwnM X CX k C "__eq__" sp) (hr : Room (k + 1) X.A) (hx : Passes CX X E) : OpR X (compareOp .In) (rInR X.K C sp E) := by
  intro pins s σ H x y u v Q I rx ry h
  obtain ⟨b, l, xs, rfl, rfl, hl, hall, q⟩ := h
  cases rx
  cases ry
  obtain ⟨_, its, n, rv, e1⟩ := (show ObjOk _ _ H s.heap l (.lst xs) from I.hok l _ hl)
  show wpAny _ X.A (do return Value.bool (← contains (.ref l) (.ref b))) _ _ s
  have hT : s.TypeIs (.ref l) "list" := ⟨_, e1, rfl⟩
  refine wpAny_bind (wpAny_contains_slot hT F.slot_list_contains (wpAny_mono (call_meetsIn (S := fun A R s' => A = X.A ∧ s' = s ∧ R = wants (fun v s' => v = .bool false ∧ Inv X pins σ H s') X.xe) F.slot_list_contains hT F.entry_list_contains (F.args_list_contains_2 _ _) ?_ ⟨rfl, rfl, rfl⟩) (fun v s' hv => ?_) fun _ _ e => e))
  · rintro A R s' ⟨rfl, rfl, rfl⟩
    obtain ⟨hp, g, d, tk, os⟩ := s'
    wp_walk using wpAny_loadPart' e1
    exact ⟨plainId_quiet plain_contains_loop _, codeAny_builtin entry_contains_loop (by
      rw [Around.under_plainId plain_contains_loop _]
      exact in_loopO M ⟨hr.in1, rfl⟩ hx hall hl (fun s' I' => ⟨rfl, I'⟩) (fun e s' z => z) _ 0 _ rfl I)⟩
  · obtain ⟨rfl, I'⟩ := hv
    exact wpAny_truthy_bool (wpAny_pure ⟨.bl false, H, I', rfl, q⟩)
end
end NB
/-! NBt: o.m(k = v, ..). -/
namespace NB
open PySem PySem.Spec PyProof.Rows L2
def tMethK (C : Addr) (m : Str) (j : Nat) (sp : Sp) (gV : List V → List V → List V) (E : XK) (ta : TE) (tk : TA) : TE := fun σ H Q => ta σ H fun x H1 => ∃ a dx fs, x = .ref a ∧ H1 a = some (.ins C dx fs) ∧ fs.lookup m = none ∧ tk σ H1 fun zs H2 => zs.length = j ∧ sp (gV [x] zs) H2 Q E
section
variable {X : Cx} {CX : CXT} {k n : Nat} {f C : Addr} {fd : FuncData} {ps ks : List Str} {sp : Sp} {E : XK} {m : Str} {apos pos : Pos} {o : Expr} {kws : List Keyword} {ta : TE} {tk : TA} {g : List Value → List Value → List Value} {gV : List V → List V → List V}
theorem pe_methK0 {pl : Sem Bool} (he : PE X o ta) (c : Cls X.K C) (hm : Meth X.K C m f) (F : FnOk X.prog X.w X.K X.mg X.base CX k f fd ps sp) (hr : Room k X.A) (hb : KBn X.K fd ps 1 ks g gV) (hx : Passes CX X E) (hkw : PK X kws tk)
    (hall : (backToKw pos (keywordEach kws X.env)).all (·.1.isSome) = true := by rfl) (hks : (backToKw pos (keywordEach kws X.env)).filterMap (·.1) = ks := by rfl)
    (hpl : ((backTo pos (starEach [] X.env)).any (·.1) || (backToKw pos (keywordEach kws X.env)).any (·.1.isNone)) = false := by rfl)
    (ht : eval (.Call (.Attribute o m apos) [] kws pos) X.env = (do
      let ov ← eval o X.env
      standAt apos.atName
      let (f, first) ← holding [ov] (getMethod ov m pl)
      callWith pos f first (backTo pos (starEach [] X.env)) (backToKw pos (keywordEach kws X.env))) := by rfl) :
    PE X (.Call (.Attribute o m apos) [] kws pos) (tMethK C m ks.length sp gV E ta tk) := by
  refine ⟨fun pins s σ H Q I h => ?_⟩
  refine PySem.W.methodCall_KW (pl := pl) (thn (he.run pins s σ H _ I h) fun u s1 ⟨x, H1, I1, rx, a, dx, fs, ex, ea, l, q⟩ => ?_) ht
  subst ex
  obtain rfl : u = Value.ref a := rx
  refine getmeth_ok I1 ea c hm l ?_
  refine PySem.W.callWith_KW0 (first := [.ref a]) (h₀ := X.base) I.ok.mod.kin hm.kp hall ?_ hpl
  refine thn (hkw.run pos pins s1 σ H1 _ I1 q) fun ws s2 ⟨zs, H2, I2, rz, l2, q2⟩ => ⟨I2.kIn, ?_⟩
  rw [hks]
  have r1 : Vals [V.ref a] [Value.ref a] := .cons rfl .nil
  have r2 := hb.rel r1 rz
  refine wpAny_call (codeAny_mono (F.run X.A X.stack s2 H2 ⟨[.ref a], ks.zip ws⟩ (g [.ref a] ws) (gV [.ref a] zs) Q E hr I2.env0 (hb.to s2 [.ref a] ws I2.kIn rfl (rz.length.symm.trans l2)) r2 q2) fun r s' hq => ?_)
  match r, hq with
  | .error e, hq => exact hx pins σ H2 s2 e s' I2 hq
  | .ok (.ret u), hq => exact I2.after hq
/-- all but the first by name, the last one first -/
theorem kbn_of {K : PySem.W.Frag} {fd : FuncData} {fl : List Str} (h : KwB fd fl) : KBn K fd ("self" :: fl) 1 fl.reverse (fun us ws => us ++ ws.reverse) (fun vs zs => vs ++ zs.reverse) := by
  refine ⟨fun s us ws _ l1 l2 => ?_, fun r1 r2 => r1.append (vals_rev r2)⟩
  match us, l1 with
  | [u], _ => exact h s u ws (by rw [l2, List.length_reverse])
end
end NB
/-! NBv: cls(..) by a local name, C.m(k = v) of a classmethod, text[::-1]. -/
namespace NB
open PySem PySem.Spec PyProof.Rows L2 ClX
/-- x(..), the slot holds the class at C -/
def tMakeV (C : Addr) (i : Nat) (sp : Sp) (E : XK) (t : TA) : TE := fun σ H Q => σ[i]? = some (some (.ref C)) ∧ t σ H fun vs H1 => ∀ x dx, H1 x = none → H1 dx = none → dx ≠ x → sp (.ref x :: vs) (upd (upd H1 dx (.own x)) x (.ins C dx [])) (fun v H2 => v = .non ∧ Q (.ref x) H2) E
def tCMethK (C : Addr) (j : Nat) (sp : Sp) (gV : List V → List V → List V) (E : XK) (ta : TE) (tk : TA) : TE := fun σ H Q => ta σ H fun x H1 => x = .ref C ∧ tk σ H1 fun zs H2 => zs.length = j ∧ sp (gV [.ref C] zs) H2 Q E
def tRevS (te : TE) : TE := fun σ H Q => te σ H fun x H1 => ∃ z : Str, x = .str z ∧ z.length ≤ 2 ∧ ∀ y : Str, y.length ≤ 2 → (∀ c ∈ y.cps.toList, c ∈ z.cps.toList) → Q (.str y) H1
section
variable {X : Cx} {CX : CXT} {k i : Nat} {f C p g : Addr} {mc : Value} {fd : FuncData} {ps ks : List Str} {sp : Sp} {E : XK} {x m : Str} {pp apos pos : Pos} {o e : Expr} {es : List Expr} {kws : List Keyword} {ta te : TE} {t tk : TA} {gs : List Value → List Value → List Value} {gV : List V → List V → List V}
theorem pe_makeV (M : Mk X.K C f) (F : FnOk X.prog X.w X.K X.mg X.base CX k f fd ps sp) (hr : Room (k + 1) X.A) (hN : X.N[i]? = some x) (hv : Vis X.env.scope x) (hb : Binds X.K fd ps []) (hx : Passes CX X E) (ha : PA X (e :: es) t)
    (hdb : (x == ("__debug__" : Str)) = false := by decide) (hcd : (x == ("__classdict__" : Str)) = false := by decide)
    (he : starEach (e :: es) X.env = (false, eval e X.env) :: starEach es X.env := by rfl) (hpl : (backTo pos (starEach es X.env)).any (·.1) = false := by rfl) :
    PE X (.Call (.Name x pp) (e :: es) [] pos) (tMakeV C i sp E t) := by
  refine ⟨fun pins s σ H Q I h => ?_⟩
  obtain ⟨hs, ht⟩ := h
  refine wpAny_Call_Name_kw (thn ((pe_var (pos := pp) hN hv hdb hcd).run pins s σ H (fun v H1 => v = .ref C ∧ H1 = H) I ⟨.ref C, hs, rfl, rfl⟩) fun u s1 ⟨v, H1, I1, r1, q1⟩ => ?_)
  obtain ⟨rfl, rfl⟩ := q1
  cases r1
  refine PySem.W.callWith_K (h₀ := X.base) I.ok.mod.kin M.kp (thn (ha.run pos pins s1 σ _ _ I1 ht) fun us s2 ⟨vs, H2, I2, r, q⟩ => ⟨I2.kIn, ?_⟩) he hpl
  exact run_make M F hr hb .nil hx I2 r (fun a b h1 h2 h3 => by rw [List.append_nil]; exact q a b h1 h2 h3)
theorem pe_cmethK {pl : Sem Bool} (he : PE X o ta) (r : CRead X.K C mc) (c : CMet X.K C mc m p g) (F : FnOk X.prog X.w X.K X.mg X.base CX k g fd ps sp) (hr : Room k X.A) (hb : KBn X.K fd ps 1 ks gs gV) (hx : Passes CX X E) (hkw : PK X kws tk)
    (hall : (backToKw pos (keywordEach kws X.env)).all (·.1.isSome) = true := by rfl) (hks : (backToKw pos (keywordEach kws X.env)).filterMap (·.1) = ks := by rfl)
    (hpl : ((backTo pos (starEach [] X.env)).any (·.1) || (backToKw pos (keywordEach kws X.env)).any (·.1.isNone)) = false := by rfl)
    (ht : eval (.Call (.Attribute o m apos) [] kws pos) X.env = (do
      let ov ← eval o X.env
      standAt apos.atName
      let (f, first) ← holding [ov] (getMethod ov m pl)
      callWith pos f first (backTo pos (starEach [] X.env)) (backToKw pos (keywordEach kws X.env))) := by rfl) :
    PE X (.Call (.Attribute o m apos) [] kws pos) (tCMethK C ks.length sp gV E ta tk) := by
  refine ⟨fun pins s σ H Q I h => ?_⟩
  refine PySem.W.methodCall_KW (pl := pl) (thn (he.run pins s σ H _ I h) fun u s1 ⟨x, H1, I1, rx, ex, q⟩ => ?_) ht
  subst ex
  obtain rfl : u = Value.ref C := rx
  refine getmethcm_ok I1 r c fun s2 I2 => ?_
  have hq := pin_at I2
  have hL : s1.heap.objs.size ≠ X.env.locals := (I2.pin (s1.heap.objs.size, PySem.W.methodObj (.ref g) (.ref C)) (List.mem_append_right _ List.mem_cons_self)).2.2.1
  refine PySem.W.callWith_of (P := PySem.W.MethP X.K s1.heap.objs.size g (.ref C)) hpl (PySem.W.keeps_M c.fi) (evalArgs_kw2_nil hall ?_)
  refine thn (hkw.run pos _ s2 σ H1 _ I2 q) fun ws s3 ⟨zs, H2, I3, rz, l2, q2⟩ => ⟨⟨pin_at I3, I3.kIn⟩, ?_⟩
  rw [hks]
  have r1 : Vals [V.ref C] [Value.ref C] := .cons rfl .nil
  have r2 := hb.rel r1 rz
  have z : wpAny (model X.prog X.w) X.A (call (.ref s1.heap.objs.size) [] (ks.zip ws)) (EP X ((s1.heap.objs.size, PySem.W.methodObj (.ref g) (.ref C)) :: pins) σ Q) X.xe s3 := by
    refine wpAny_call (PySem.W.method_call (pin_at I3) ?_)
    refine codeAny_mono (F.run X.A X.stack s3 H2 ⟨[.ref C], ks.zip ws⟩ (gs [.ref C] ws) (gV [.ref C] zs) Q E hr I3.env0 (hb.to s3 [.ref C] ws I3.kIn rfl (rz.length.symm.trans l2)) r2 q2) fun r s' hq => ?_
    match r, hq with
    | .error e, hq => exact hx _ σ H2 s3 e s' I3 hq
    | .ok (.ret u), hq => exact I3.after hq
  exact thn z fun _ _ y => unpinE y
theorem pe_revS {n : Nat} {p1 p2 p3 : Pos} (he : PE X e te) : PE X (.Subscript e (.Slice none none (some (.UnaryOp .USub (.Constant (.int 1) n p1) p2)) p3) pos) (tRevS te) := by
  refine ⟨fun pins s σ H Q I h => ?_⟩
  refine Subscript_ (thn (he.run pins s σ H _ I h) fun v s1 ⟨x, H1, I1, r1, q1⟩ => ?_)
  obtain ⟨z, ex, hz, q⟩ := q1
  subst ex
  obtain ⟨tk, rfl⟩ := r1
  have hst : PO X (some (.UnaryOp .USub (.Constant (.int 1) n p1) p2)) (tPart (tUn (rU fun i => .int (-i)) (tC (.int 1)))) := po_some (pe_un un_neg pe_int)
  refine wpAny_Slice (thn (po_none.run pins s1 σ H1 (fun o H2 => o = none ∧ H2 = H1) I1 ⟨rfl, rfl⟩) fun vl s2 ⟨l, H2, I2, pl, el, e2⟩ => ?_)
  subst el e2
  refine thn (po_none.run pins s2 σ H2 (fun o H3 => o = none ∧ H3 = H2) I2 ⟨rfl, rfl⟩) fun vu s3 ⟨u, H3, I3, pu, eu, e3⟩ => ?_
  subst eu e3
  refine thn (hst.run pins s3 σ H3 (fun o H4 => o = some (-1) ∧ H4 = H3) I3 ⟨1, rfl, -1, rfl, rfl, rfl⟩) fun vs s4 ⟨o, H4, I4, ps, eo, e4⟩ => ?_
  subst eo e4
  have I5 : Inv X pins σ H4 { s4 with heap := s4.heap.push { cls := .type "slice", data := .fields #[vl, vu, vs] } } := I4.kept (t' := s4.toks) fun b ob q => Heap.get?_push_of_some _ q
  show wpAny (model X.prog X.w) X.A (subscriptTail e (.Slice none none (some (.UnaryOp .USub (.Constant (.int 1) n p1) p2)) p3) (.str z tk) (.ref s4.heap.objs.size)) (EP X pins σ Q) X.xe { s4 with heap := s4.heap.push { cls := .type "slice", data := .fields #[vl, vu, vs] } }
  refine tail_any (ops := [.str z tk, .ref s4.heap.objs.size]) (typeIs_str _ _ _) (F.slot_str_getitem.lookup) ?_ (by with_unfolding_all rfl)
  obtain ⟨l, rfl, hl⟩ := IsPart.raw pl
  obtain ⟨u, rfl, hu⟩ := IsPart.raw pu
  obtain ⟨st, rfl, hs⟩ := IsPart.raw ps
  cases l with
  | some _ => cases hl
  | none =>
  cases u with
  | some _ => cases hu
  | none =>
  cases st with
  | none => cases hs
  | some st =>
    obtain ⟨i, ti⟩ := st
    have hi : i = -1 := Option.some.inj hs
    subst hi
    refine wpAny_getItem_str_slice (l := none) (u := none) (st := some (-1, ti)) ⟨_, Heap.get?_push_size _ rfl, rfl, rfl⟩ rfl ?_
    show Made.post (if ((-1 : Int) == 1 && _) = true then Made.val (.str z tk) else Made.str ⟨((Builtin.Str.strSliceIndices none none (-1) z.length).filterMap (z.cps[·]?)).toArray⟩) (EP X pins σ Q) _
    rw [if_neg (by simp)]
    have li : (Builtin.Str.strSliceIndices none none (-1) z.length).length ≤ 2 := by
      generalize z.length = n at hz
      match n, hz with
      | 0, _ => decide +kernel
      | 1, _ => decide +kernel
      | 2, _ => decide +kernel
    have lf := List.length_filterMap_le (fun i => z.cps[i]?) (Builtin.Str.strSliceIndices none none (-1) z.length)
    have ly : (⟨((Builtin.Str.strSliceIndices none none (-1) z.length).filterMap (z.cps[·]?)).toArray⟩ : Str).length ≤ 2 := by
      show (((Builtin.Str.strSliceIndices none none (-1) z.length).filterMap (z.cps[·]?)).toArray).size ≤ 2
      rw [List.size_toArray]
      omega
    refine ⟨Nat.le_trans ly (by rw [sizeLine_eq]; decide), .str _, H4, I5.tok _, ⟨_, rfl⟩, q _ ly fun c hc => ?_⟩
    obtain ⟨j, _, hj⟩ := List.mem_filterMap.mp (show c ∈ ((Builtin.Str.strSliceIndices none none (-1) z.length).filterMap (z.cps[·]?)) from hc)
    rw [← Array.getElem?_toList] at hj
    exact List.mem_of_getElem? hj
end
end NB
/-! NBh: what the top leaves: errors, defs, methods, a class with operators. -/
namespace NB
open PySem L2
def excB (K : PySem.W.Frag) (C : Addr) : Bool :=
  decide (PySem.W.findIn K (.ref C) "__getattribute__" = some (some (.builtin "BaseException.__getattribute__"))) && (decide (PySem.W.findIn K (.ref C) "__getattr__" = some none) &&
  (decide (PySem.W.subIn K (.ref C) (.type "BaseException") = some true) && (PySem.W.hasDictIn K C && (decide (PySem.W.findIn K (.ref C) "__class__" = some (some (.builtin "object.__class__"))) &&
  (decide (PySem.W.specialIn K (.builtin "object.__class__") "__get__" = some (some (.builtin "getset_descriptor.__get__"))) && (decide (PySem.W.takesIn K (.builtin "object.__class__") = some true) && decide (PySem.W.mroIn K C (.type "object") = some true)))))))
theorem excB_ok {K : PySem.W.Frag} {C : Addr} (h : excB K C = true) : ExcC K C := by
  unfold excB at h
  simp only [Bool.and_eq_true, decide_eq_true_eq] at h
  obtain ⟨h1, h2, h3, h4, h5, h6, h7, h8⟩ := h
  exact ⟨h1, h2, h3, h4, h5, h6, h7, h8⟩
def errB (K : PySem.W.Frag) (C : Addr) (fl : List Str) : Bool :=
  decide (PySem.W.findIn K (.ref C) "__setattr__" = some (some (.builtin "object.__setattr__"))) && (decide (PySem.W.subIn K (.ref C) (.type "BaseException") = some true) && (decide (PySem.W.typeIn K (.ref C) = some (.type "type")) &&
  (PySem.W.keepIn K (.ref C) && (xfB K C && (excB K C && fl.all fun f => decide (PySem.W.findIn K (.ref C) f = some none))))))
/-- what the top leaves of an error's class -/
structure ErrK (K : PySem.W.Frag) (x qual : Str) (st : Stmt) (fl : List Str) (C f : Addr) (fd : FuncData) : Prop where
  ns : PySem.W.nsIn K mainGlobals x = some (some (.ref C))
  oex : OexC K C
  xf : XfC K C
  ec : ExcC K C
  nf : ∀ f ∈ fl, PySem.W.findIn K (.ref C) f = some none
  iC : PySem.W.findIn K (.ref C) "__init__" = some (some (.ref f))
  tI : PySem.W.typeIn K (.ref f) = some (.type "function")
  F : Fun K "__init__" qual st f fd
theorem err_mk {K : PySem.W.Frag} {x qual : Str} {st : Stmt} {fl : List Str} {C f N : Addr} {nm q : Str} {bs bm : List Value} {sn : List Str} {sub : List Value} {ab : Bool} {col : Option Bool} {dd : Option Addr} {k0 k1 k2 k3 k5 : Option Value}
    {oc kV doc pm cdv ct : Value} {od an : Option Addr} {osl : Array (Option Value)}
    (a : PySem.W.nsIn K mainGlobals x = some (some (.ref C))) (l : K.lookup C = some (excClassObj nm q C N bs bm true sn sub ab col dd k0 k1 k2 k3 k5 "ValueError.__new__")) (r : PySem.HandSPX.refsVE bm = true)
    (i : PySem.W.findIn K (.ref C) "__init__" = some (some (.ref f))) (t : PySem.W.typeIn K (.ref f) = some (.type "function"))
    (l2 : K.lookup f = some ⟨oc, od, .func (PySem.W.fnOf "__init__" qual (defArgs st) (defBody st) (defScope st) .none kV doc pm an cdv ct), osl⟩) (c2 : PySem.W.codeIn K cdv qual = true) (k2' : PySem.W.keepIn K (.ref f) = true)
    (b : errB K C fl = true) : ErrK K x qual st fl C f (PySem.W.fnOf "__init__" qual (defArgs st) (defBody st) (defScope st) .none kV doc pm an cdv ct) := by
  unfold errB at b
  simp only [Bool.and_eq_true, decide_eq_true_eq, List.all_eq_true] at b
  obtain ⟨b1, b2, b3, b4, b5, b6, b7⟩ := b
  exact ⟨a, ⟨⟨nm, q, N, bs, bm, sn, sub, ab, col, dd, k0, k1, k2, k3, k5, l, r⟩, b1, b2, b3, b4⟩, xfB_ok b5, excB_ok b6, b7, i, t, fun_mk l2 c2 k2'⟩
/-- a def that stands at the top -/
structure DefK (K : PySem.W.Frag) (x : Str) (st : Stmt) (f : Addr) (fd : FuncData) : Prop where
  ns : PySem.W.nsIn K mainGlobals x = some (some (.ref f))
  F : Fun K x x st f fd
theorem def_mk {K : PySem.W.Frag} {x : Str} {st : Stmt} {f : Addr} {oc kV doc pm cdv ct : Value} {od an : Option Addr} {osl : Array (Option Value)} (a : PySem.W.nsIn K mainGlobals x = some (some (.ref f)))
    (l : K.lookup f = some ⟨oc, od, .func (PySem.W.fnOf x x (defArgs st) (defBody st) (defScope st) .none kV doc pm an cdv ct), osl⟩) (c : PySem.W.codeIn K cdv x = true) (k : PySem.W.keepIn K (.ref f) = true) :
    DefK K x st f (PySem.W.fnOf x x (defArgs st) (defBody st) (defScope st) .none kV doc pm an cdv ct) := ⟨a, fun_mk l c k⟩
theorem DefK.of {P : Program} {w : World} {K : PySem.W.Frag} {mg : Str → Option Value} {base h : Heap} {x : Str} {st : Stmt} {f : Addr} {fd : FuncData} {k : Nat} {ps : List Str} {sp : Sp} (E : DefK K x st f fd) (X : K.In h) (G : h.Ns mainGlobals mg)
    (ok : FnOk P w K mg base CX0 k f fd ps sp) (b : Binds K fd ps []) : DefOf P w K mg base x k ps sp := ⟨f, fd, ok, PySem.W.mg_of X G E.ns, E.F.kp, b⟩
/-- a def that makes lambdas -/
structure DefKC (K : PySem.W.Frag) (x : Str) (st : Stmt) (f c : Addr) (fd : FuncData) : Prop where
  ns : PySem.W.nsIn K mainGlobals x = some (some (.ref f))
  F : FunC K x x st f c fd
theorem defC_mk {K : PySem.W.Frag} {x : Str} {st : Stmt} {f c : Addr} {oc kV doc pm ct : Value} {od an : Option Addr} {osl : Array (Option Value)} (a : PySem.W.nsIn K mainGlobals x = some (some (.ref f)))
    (l : K.lookup f = some ⟨oc, od, .func (PySem.W.fnOf x x (defArgs st) (defBody st) (defScope st) .none kV doc pm an (.ref c) ct), osl⟩) (cc : PySem.W.codeIn K (.ref c) x = true) (k : PySem.W.keepIn K (.ref f) = true) :
    DefKC K x st f c (PySem.W.fnOf x x (defArgs st) (defBody st) (defScope st) .none kV doc pm an (.ref c) ct) := ⟨a, ⟨⟨oc, od, kV, doc, pm, an, ct, osl, rfl, l, cc⟩, k⟩⟩
/-- a method -/
structure MethK (K : PySem.W.Frag) (C : Addr) (m qual : Str) (st : Stmt) (f : Addr) (fd : FuncData) : Prop where
  at_ : PySem.W.findIn K (.ref C) m = some (some (.ref f))
  fn : PySem.W.isFn K (.ref f) = true
  F : Fun K m qual st f fd
theorem meth_mk {K : PySem.W.Frag} {C : Addr} {m qual : Str} {st : Stmt} {f : Addr} {oc kV doc pm cdv ct : Value} {od an : Option Addr} {osl : Array (Option Value)} (a : PySem.W.findIn K (.ref C) m = some (some (.ref f)))
    (l : K.lookup f = some ⟨oc, od, .func (PySem.W.fnOf m qual (defArgs st) (defBody st) (defScope st) .none kV doc pm an cdv ct), osl⟩) (c : PySem.W.codeIn K cdv qual = true) (k : PySem.W.keepIn K (.ref f) = true) (n : PySem.W.isFn K (.ref f) = true) :
    MethK K C m qual st f (PySem.W.fnOf m qual (defArgs st) (defBody st) (defScope st) .none kV doc pm an cdv ct) := ⟨a, n, fun_mk l c k⟩
def binB (K : PySem.W.Frag) (C : Addr) (op : Operator) (T : String) : Bool :=
  PySem.W.selfFirst K C && (decide (PySem.W.findIn K (.ref C) (dunderR op.info.2) = some none) && ((PySem.W.findIn K (.type T) (PySem.dunder op.info.2)).isSome && ((PySem.W.findIn K (.type T) (dunderR op.info.2)).isSome && decide (PySem.W.subIn K (.type T) (.ref C) = some false))))
theorem binB_ok {K : PySem.W.Frag} {C : Addr} {op : Operator} {T : String} (h : binB K C op T = true) : BinT K C op T := by
  unfold binB at h
  simp only [Bool.and_eq_true, decide_eq_true_eq] at h
  obtain ⟨h1, h2, h3, h4, h5⟩ := h
  exact ⟨h1, h2, Option.isSome_iff_exists.mp h3, Option.isSome_iff_exists.mp h4, h5⟩
def inB (K : PySem.W.Frag) (C : Addr) (op : Operator) : Bool :=
  (match PySem.W.clsIn K C with | some cd => decide (cd.mro = [.ref C, .type "object"]) | none => false) && (decide (PySem.W.findIn K (.ref C) (dunderI op.info.2) = some none) && decide (PySem.W.findIn K (.type "object") (dunderI op.info.2) = some none))
theorem inB_ok {K : PySem.W.Frag} {C : Addr} {op : Operator} (h : inB K C op = true) : InT K C op := by
  unfold inB at h
  simp only [Bool.and_eq_true, decide_eq_true_eq] at h
  obtain ⟨h1, h2, h3⟩ := h
  refine ⟨?_, h2, h3⟩
  split at h1
  · rename_i cd e
    exact ⟨cd, e, by simpa using h1⟩
  · cases h1
def clsB (K : PySem.W.Frag) (C : Addr) (fl : List Str) : Bool :=
  PySem.W.plainGet K C Str.empty && (PySem.W.hasDictIn K C && (PySem.W.plainOver K C && (decide (PySem.W.findIn K (.ref C) "__setattr__" = some (some (.builtin "object.__setattr__"))) && (PySem.W.makesIn K C && (PySem.W.keepIn K (.ref C) &&
  (decide (PySem.W.findIn K (.ref C) "__class__" = some (some (.builtin "object.__class__"))) && (decide (PySem.W.specialIn K (.builtin "object.__class__") "__get__" = some (some (.builtin "getset_descriptor.__get__"))) &&
  (decide (PySem.W.takesIn K (.builtin "object.__class__") = some true) && (decide (PySem.W.mroIn K C (.type "object") = some true) && (decide (PySem.W.kitOne K (.ref C) (.ref C) = some true) && fl.all fun f => decide (PySem.W.findIn K (.ref C) f = some none)))))))))))
structure ClsK (K : PySem.W.Frag) (C : Addr) (fl : List Str) : Prop where
  cl : Cls K C
  mk_ : PySem.W.makesIn K C = true
  kp : PySem.W.keepIn K (.ref C) = true
  ca : PySem.W.findIn K (.ref C) "__class__" = some (some (.builtin "object.__class__"))
  cn : PySem.W.specialIn K (.builtin "object.__class__") "__get__" = some (some (.builtin "getset_descriptor.__get__"))
  ct : PySem.W.takesIn K (.builtin "object.__class__") = some true
  cm : PySem.W.mroIn K C (.type "object") = some true
  kc : PySem.W.kitOne K (.ref C) (.ref C) = some true
  nf : ∀ f ∈ fl, NoAttr K C f
theorem clsB_ok {K : PySem.W.Frag} {C : Addr} {fl : List Str} (h : clsB K C fl = true) : ClsK K C fl := by
  unfold clsB at h
  simp only [Bool.and_eq_true, decide_eq_true_eq, List.all_eq_true] at h
  obtain ⟨h1, h2, h3, h4, h5, h6, h7, h8, h9, h10, h11, h12⟩ := h
  exact ⟨⟨h1, h2, h3, h4⟩, h5, h6, h7, h8, h9, h10, h11, fun f hf => h12 f hf⟩
end NB
namespace NB
open PySem L2
def top (i : Nat) : Stmt := PySem.Challenge.pw_nodeadnight_k16_texts_of_stays.main.body.getD i (.Pass ⟨0, 0, 0, 0⟩)
section
variable {P : Program} {w : World} {K : PySem.W.Frag} {mg : Str → Option Value} {base : Heap}
abbrev sDraw : Stmt := top 20
theorem scDraw : FnScope ["_law_pen_here", "_law_many", "_law_digit", "_law_at", "_law_cell", "_law_great", "_law_mixed"] ["_law_pen_here", "_law_many"] (defScope sDraw) :=
  ⟨rfl, rfl, rfl, by decide +kernel, rfl, by decide +kernel, by decide +kernel⟩
theorem ok_draw {f : Addr} {fd : FuncData} (F : Fun K "_law_draw" "_law_draw" sDraw f fd) (T : Bi mg) : FnOk P w K mg base CX0 1 f fd ["_law_pen_here", "_law_many"] spDraw := by
  refine F.ok scDraw (fun vs H Q E h => ?_) (fun cdv A outer s H vs Q E hr h => ?_)
  · obtain ⟨p, c, ns, i, r, many, rfl, _⟩ := h
    rfl
  · obtain ⟨p, c, ns, i, r, many, rfl, pen, hi, hm, hm2, k⟩ := h
    refine ⟨_, pss_cons (ps_if (pt_cmpR op_gt (pe_ix ix_list (pv 0) pe_int (fun _ _ => rfl)) pe_int (nomark _))
        (pss_cons (ps_set (i := 2) scDraw.nd rfl (.inl rfl) (pe_op op_mod (pe_callTy call_int1 (by rfl) T.int (by decide +kernel) (pa_cons (pe_ix ix_list (pv 0) pe_int (fun _ _ => rfl)) pa_nil)) (pv 1)))
        (pss_cons (ps_asg (pe_op op_fdivW (pe_callTy call_int1 (by rfl) T.int (by decide +kernel) (pa_cons (pe_ix ix_list (pv 0) pe_int (fun _ _ => rfl)) pa_nil)) (pv 1)) (pg_sub (pv 0) pe_int set_list))
        (pss_one (ps_ret (pv 2))))) pss_nil)
      (pss_cons (ps_set (i := 3) scDraw.nd rfl (.inl rfl) (pe_ix ix_list (pv 0) pe_int (fun _ _ => rfl)))
      (pss_cons (ps_asg (pe_op op_add (pv 3) pe_int) (pg_sub (pv 0) pe_int set_list))
      (pss_cons (ps_set (i := 4) scDraw.nd rfl (.inl rfl) (pe_op op_add (pe_op op_mul pe_int (pv 3)) pe_int))
      (C8.pss_cut (ps_if (pt_cmpR (op_neD hr.units) (pe_ix ix_list (pv 0) pe_int (fun _ _ => rfl)) (pe_lst pa_nil) (nomark _))
        (pss_one (ps_set (i := 4) scDraw.nd rfl (.inl rfl) (pe_ix ix_list (pe_ix ix_list (pv 0) pe_int (fun _ _ => rfl))
          (pe_op op_mod (pe_callTy call_int1 (by rfl) T.int (by decide +kernel) (pa_cons (pv 3) pa_nil)) (pe_callB call_len_seq (by rfl) T.len PySem.boot_len (pa_cons (pe_ix ix_list (pv 0) pe_int (fun _ _ => rfl)) pa_nil))) (fun _ _ => rfl)))) pss_nil)
      (C8.pss_cut (ps_if (PW.pt (pw_and (pt_cmpR op_lt (pv 3) (pe_callB call_len_seq (by rfl) T.len PySem.boot_len (pa_cons (pe_ix ix_list (pv 0) pe_int (fun _ _ => rfl)) pa_nil)) (nomark _))
          (pw_and1 (pt_cmpR op_ge (pe_callB call_abs (by rfl) T.abs (by decide +kernel) (pa_cons (pv 4) pa_nil)) (pe_op op_pow pe_int pe_int) (nomark _)))))
        (pss_cons (ps_set (i := 5) scDraw.nd rfl (.inl rfl) (pe_op op_add (pe_op op_mul pe_int (pe_op op_sub (pe_callB call_abs (by rfl) T.abs (by decide +kernel) (pa_cons (pv 4) pa_nil)) (pe_op op_pow pe_int pe_int)))
            (pe_callTy call_int1 (by rfl) T.int (by decide +kernel) (pa_cons (pe_cmpR op_lt (pv 4) pe_int (nomark _)) pa_nil))))
        (pss_cons (ps_asg (pe_op op_fdivW (pe_callTy call_int1 (by rfl) T.int (by decide +kernel) (pa_cons (pv 5) pa_nil)) (pv 1)) (pg_sub (pv 0) pe_int set_list))
        (pss_one (ps_ret (pe_op op_mod (pe_callTy call_int1 (by rfl) T.int (by decide +kernel) (pa_cons (pv 5) pa_nil)) (pv 1)))))) pss_nil)
      (pss_cons (ps_set (i := 6) scDraw.nd rfl (.inl rfl) (pe_op op_mod (pe_callTy call_int1 (by rfl) T.int (by decide +kernel) (pa_cons (pe_op op_pow (pe_op op_add (pe_op op_add (pe_op op_mod (pe_callTy call_int1 (by rfl) T.int (by decide +kernel) (pa_cons (pv 4) pa_nil)) pe_int)
          (pe_op op_mul pe_int (pv 3))) pe_int) pe_int) pa_nil)) pe_int))
      (pss_cons (ps_set (i := 6) scDraw.nd rfl (.inl rfl) (pe_op op_mod (pe_callTy call_int1 (by rfl) T.int (by decide +kernel) (pa_cons (pe_op op_pow (pe_op op_add (pe_op op_add (pe_op op_mul (pv 6) (pe_op op_add (pe_op op_mul pe_int (pv 3)) pe_int))
          (pe_op op_mul (pe_op op_mul pe_int (pv 3)) (pv 3))) pe_int) pe_int) pa_nil)) pe_int))
      (pss_one (ps_ret (pe_op op_mod (pe_callTy call_int1 (by rfl) T.int (by decide +kernel) (pa_cons (pe_op op_fdiv (pv 6) pe_int) pa_nil)) (pv 1)))))))))))
      , ?_⟩
    have hlp : SqL K H p [.ref c, .int i, .int r] := SqL.of pen.pen
    have hcp : c ≠ p := ne_of pen.cells pen.pen (by
      intro z
      have z2 := HO.lst.inj z
      cases ns with
      | nil => cases z2
      | cons a t => cases z2)
    have hpow : (10 : Int) ^ (18 : Int).toNat = 1000000000000000000 := by decide
    refine ⟨_, rfl, p, _, _, _, rfl, rfl, hlp, rfl, _, _, rfl, rfl, _, rfl, ?_⟩
    refine ite2 (fun h => ?_) (fun h => ?_)
    · refine ⟨_, rfl, p, _, _, _, rfl, rfl, hlp, rfl, .inl ⟨_, rfl, _, rfl, _, _, rfl, rfl, (by show (0 : Int) < many; omega), ?_⟩⟩
      refine ⟨_, rfl, p, _, _, _, rfl, rfl, hlp, rfl, .inl ⟨_, rfl, _, rfl, _, _, rfl, rfl, wide_div (b := 100) (by omega) (by omega) (by decide) (by decide), _, rfl, p, _, _, 2, rfl, rfl, pen.pen, rfl, _, rfl, ?_⟩⟩
      exact k _ i _ _ (But.refl _ _).upd ⟨upd_same, by rw [upd_ne hcp]; exact pen.cells, pen.lo, pen.few⟩ (Int.le_refl _) (by omega) (Int.emod_nonneg _ (by omega)) (Int.emod_lt_of_pos _ (by omega))
    · refine ⟨_, rfl, p, _, _, _, rfl, rfl, hlp, rfl, ?_⟩
      refine ⟨_, rfl, _, _, rfl, rfl, _, rfl, p, _, _, 1, rfl, rfl, pen.pen, rfl, ?_⟩
      have e1 : ([V.ref c, V.int i, V.int r].set 1 (V.int (i + 1))) = [V.ref c, V.int (i + 1), V.int r] := rfl
      rw [e1]
      generalize hH1 : upd H p (HO.lst [V.ref c, V.int (i + 1), V.int r]) = H1
      have h1p : H1 p = some (.lst [.ref c, .int (i + 1), .int r]) := by rw [← hH1]; exact upd_same
      have h1c : H1 c = some (.lst (ns.map V.int)) := by rw [← hH1, upd_ne hcp]; exact pen.cells
      have hl1 : SqL K H1 p [.ref c, .int (i + 1), .int r] := SqL.of h1p
      have b1 : But p H H1 := by rw [← hH1]; exact (But.refl _ _).upd
      refine ⟨_, rfl, _, _, rfl, rfl, .inl ⟨by decide, by decide⟩, _, _, rfl, rfl, ?_⟩
      refine ⟨fun σ' H' => ∃ cell : Int, σ' = [some (.ref p), some (.int many), none, some (.int i), some (.int cell), none, none] ∧ But p H H' ∧
        H' p = some (.lst [.ref c, .int (i + 1), .int r]) ∧ H' c = some (.lst (ns.map V.int)), ?_, ?_⟩
      · refine ⟨_, rfl, p, _, _, _, rfl, rfl, hl1, rfl, Nat.zero_le _, fun q hq => ?_⟩
        have npq : p ≠ q := ne_of_none h1p hq
        have ncq : c ≠ q := ne_of_none h1c hq
        have h2p : upd H1 q (.lst []) p = some (.lst [.ref c, .int (i + 1), .int r]) := by rw [upd_ne npq]; exact h1p
        have h2c : upd H1 q (.lst []) c = some (.lst (ns.map V.int)) := by rw [upd_ne ncq]; exact h1c
        have b2 : But p H (upd H1 q (.lst [])) := b1.new hq
        refine ⟨PyData.list (ns.map PyData.int), PyData.list [], .lst (SqL.of h2c) (dp_ints ns), .lst (SqL.of upd_same) .nil, shaped_ints ns, rfl, _, rfl, ?_⟩
        refine ite2 (fun g => ?_) (fun g => ?_)
        · have hne : 0 < ns.length := by
            cases ns with
            | nil => exact absurd g (by decide)
            | cons a t => exact Nat.succ_pos _
          refine ⟨_, rfl, p, _, _, _, rfl, rfl, SqL.of h2p, rfl, _, rfl, .inl ⟨_, rfl, _, rfl, p, _, _, _, rfl, rfl, SqL.of h2p, rfl, c, _, rfl, .inl (SqL.of h2c), _, _, rfl, rfl, ?_, ?_⟩⟩
          · show (0 : Int) < ((ns.map V.int).length : Int)
            rw [List.length_map]
            omega
          · have l1 : 0 ≤ i % (ns.length : Int) := Int.emod_nonneg _ (by omega)
            have l2 : i % (ns.length : Int) < (ns.length : Int) := Int.emod_lt_of_pos _ (by omega)
            obtain ⟨j, ej⟩ : ∃ j : Nat, i % (ns.length : Int) = (j : Int) := ⟨_, (Int.toNat_of_nonneg l1).symm⟩
            have hj : j < ns.length := by omega
            refine ⟨c, _, _, .int ns[j], rfl, rfl, SqL.of h2c, ?_, ns[j], rfl, b2, h2p, h2c⟩
            show atI (ns.map V.int) (i % ((ns.map V.int).length : Int)) = some (.int ns[j])
            rw [List.length_map, ej]
            exact atI_nat (by rw [List.getElem?_map, List.getElem?_eq_getElem hj]; rfl)
        · exact ⟨_, rfl, b2, h2p, h2c⟩
      · rintro σ' H' ⟨cell, rfl, b2, h2p, h2c⟩
        have lo := pen.lo
        have pen2 : ∀ r' : Int, Pen (upd H' p (.lst [.ref c, .int (i + 1), .int r'])) p c ns (i + 1) r' := fun r' => ⟨upd_same, by rw [upd_ne hcp]; exact h2c, by omega, pen.few⟩
        refine ⟨fun σ2 H3 => σ2 = [some (.ref p), some (.int many), none, some (.int i), some (.int cell), none, none] ∧ H3 = H', ?_, ?_⟩
        · refine ⟨_, rfl, _, rfl, p, _, _, _, rfl, rfl, SqL.of h2p, rfl, c, _, rfl, .inl (SqL.of h2c), _, _, rfl, rfl, _, rfl, ?_⟩
          refine ite2 (fun g1 => ?_) (fun g1 => ⟨rfl, rfl⟩)
          refine ⟨_, rfl, _, rfl, _, _, rfl, rfl, ⟨by decide, by decide, by decide⟩, _, _, rfl, rfl, _, rfl, ?_⟩
          refine ite2 (fun g2 => ?_) (fun g2 => ⟨rfl, rfl⟩)
          refine ⟨_, rfl, _, rfl, _, _, rfl, rfl, ⟨by decide, by decide, by decide⟩, _, _, rfl, rfl, _, _, rfl, rfl, .inl ⟨by decide, by decide⟩, _, rfl, _, _, rfl, rfl, .inr ⟨_, rfl, _, _, rfl, rfl, ?_⟩⟩
          refine ⟨_, rfl, .inl ⟨_, rfl, _, rfl, _, _, rfl, rfl, wide_div (b := 100) (by omega) (by omega) (by decide) (by decide), _, rfl, p, _, _, 2, rfl, rfl, h2p, rfl, ?_⟩⟩
          refine ⟨_, rfl, .inl ⟨_, rfl, _, rfl, _, _, rfl, rfl, (by show (0 : Int) < many; omega), ?_⟩⟩
          exact k _ (i + 1) _ _ b2.upd (pen2 _) (by omega) (by omega) (Int.emod_nonneg _ (by omega)) (Int.emod_lt_of_pos _ (by omega))
        · rintro σ2 H3 ⟨rfl, rfl⟩
          have p1 : (0 : Int) < 2147483579 := by decide
          have p2 : (0 : Int) < 2147483629 := by decide
          have p3 : (0 : Int) < 2147483587 := by decide
          have c1 := Int.emod_nonneg cell (Int.ne_of_gt p1)
          have c2 := Int.emod_lt_of_pos cell p1
          refine ⟨_, rfl, .inl ⟨_, rfl, _, _, rfl, rfl, p1, _, rfl, _, _, rfl, rfl, .inl ⟨by decide, by decide⟩, _, _, rfl, rfl, _, _, rfl, rfl, _, _, rfl, rfl, ⟨by decide, by decide, ?_⟩, .inl ⟨_, rfl, _, _, rfl, rfl, p2, ?_⟩⟩⟩
          · show (cell % 2147483579 + 45631 * i + 967).natAbs < 2 ^ 64
            omega
          · have d1 := Int.emod_nonneg ((cell % 2147483579 + 45631 * i + 967) ^ (5 : Int).toNat) (Int.ne_of_gt p2)
            have d2 := Int.emod_lt_of_pos ((cell % 2147483579 + 45631 * i + 967) ^ (5 : Int).toNat) p2
            obtain ⟨x, hx⟩ : ∃ x : Int, ((cell % 2147483579 + 45631 * i + 967) ^ (5 : Int).toNat) % 2147483629 = x := ⟨_, rfl⟩
            rw [hx] at d1 d2
            have x1 : 0 ≤ x * (2 * i + 347) := Int.mul_nonneg d1 (by omega)
            have x2 : x * (2 * i + 347) ≤ 2147483629 * 20347 := Int.mul_le_mul (by omega) (by omega) (by omega) (by decide)
            have x3 : 0 ≤ 58897 * i * i := Int.mul_nonneg (by omega) lo
            have x4 : 58897 * i * i ≤ 588970000 * 10000 := Int.mul_le_mul (by omega) hi lo (by decide)
            refine ⟨_, rfl, _, rfl, _, _, rfl, rfl, .inl ⟨by decide, by decide⟩, _, _, rfl, rfl, _, _, rfl, rfl, .inl ⟨by rw [hx]; omega, by rw [hx]; omega⟩,
              _, rfl, _, _, rfl, rfl, .inl ⟨by decide, by decide⟩, _, rfl, _, _, rfl, rfl, .inr ⟨by omega, by omega⟩, _, _, rfl, rfl, _, _, rfl, rfl, _, _, rfl, rfl, ⟨by decide, by decide, ?_⟩,
              .inl ⟨_, rfl, _, _, rfl, rfl, p3, ?_⟩⟩
            · show ((cell % 2147483579 + 45631 * i + 967) ^ (5 : Int).toNat % 2147483629 * (2 * i + 347) + 58897 * i * i + 97).natAbs < 2 ^ 64
              rw [hx]
              omega
            · refine ⟨_, rfl, _, _, rfl, rfl, ⟨by decide, by decide⟩, .inl ⟨_, rfl, _, rfl, _, _, rfl, rfl, (by show (0 : Int) < many; omega), ?_⟩⟩
              exact k _ (i + 1) r _ b2 ⟨h2p, h2c, by omega, pen.few⟩ (by omega) (by omega) (Int.emod_nonneg _ (by omega)) (Int.emod_lt_of_pos _ (by omega))
abbrev sPen : Stmt := top 19
theorem scPen : FnScope ["_law_script"] ["_law_script"] (defScope sPen) := ⟨rfl, rfl, rfl, by decide +kernel, rfl, by decide +kernel, by decide +kernel⟩
theorem ok_pen {f : Addr} {fd : FuncData} (F : Fun K "_law_pen" "_law_pen" sPen f fd) (T : Bi mg) : FnOk P w K mg base CX0 1 f fd ["_law_script"] (spPen K) := by
  refine F.ok scPen (fun vs H Q E h => ?_) (fun cdv A outer s H vs Q E hr h => ?_)
  · obtain ⟨a, ns, rfl, _⟩ := h
    rfl
  · obtain ⟨a, ns, rfl, hs, hl, k⟩ := h
    refine ⟨_, pss_one (ps_ret (pe_lst (pa_cons (pe_callTy call_list_of (by rfl) T.list (by decide +kernel) (pa_cons (pe_slice sl_list (pv 0) po_none (po_some pe_int)) pa_nil)) (pa_cons pe_int (pa_cons pe_int pa_nil))))), ?_⟩
    obtain ⟨ms, em, lm⟩ := cut_ints ns none (some 63)
    refine ⟨_, rfl, _, rfl, a, _, rfl, hs, fun q hq => ?_⟩
    rw [em]
    refine ⟨q, _, rfl, .inl (SqL.of upd_same), fun c hc => ⟨(by show 3 ≤ sizeLine; decide), fun p hp => ?_⟩⟩
    have n1 : c ≠ p := fun z => by
      rw [z, ← z, upd_same] at hp
      cases hp
    have hp1 : upd H q (.lst (ms.map V.int)) p = none := by
      rw [upd_ne n1.symm] at hp
      exact hp
    have hp0 : H p = none := by
      by_cases z : p = q
      · rw [z, upd_same] at hp1
        cases hp1
      · rw [upd_ne z] at hp1
        exact hp1
    refine k _ p c ms (fun b o e => ?_) hp0 ⟨upd_same, ?_, Int.le_refl _, by omega⟩
    · have e1 : upd H q (.lst (ms.map V.int)) b = some o := by
        rw [upd_ne (ne_of_none e hq)]
        exact e
      have e2 : upd (upd H q (.lst (ms.map V.int))) c (.lst (ms.map V.int)) b = some o := by
        rw [upd_ne (ne_of_none e1 hc)]
        exact e1
      rw [upd_ne (ne_of_none e2 hp)]
      exact e2
    · rw [upd_ne n1]
      exact upd_same

abbrev sPick : Stmt := top 21
theorem scPick : FnScope ["_law_pen_here", "_law_some"] ["_law_pen_here", "_law_some"] (defScope sPick) := ⟨rfl, rfl, rfl, by decide +kernel, rfl, by decide +kernel, by decide +kernel⟩
theorem ok_pick {f : Addr} {fd : FuncData} (F : Fun K "_law_pick" "_law_pick" sPick f fd) (T : Bi mg) (D : DefOf P w K mg base "_law_draw" 1 ["_law_pen_here", "_law_many"] spDraw) :
    FnOk P w K mg base CX0 2 f fd ["_law_pen_here", "_law_some"] spPick := by
  obtain ⟨fD, fdD, FD, mD, kD, bD⟩ := D.ex
  refine F.ok scPick (fun vs H Q E h => ?_) (fun cdv A outer s H vs Q E hr h => ?_)
  · obtain ⟨p, c, l, ns, i, r, xs, rfl, _⟩ := h
    rfl
  · obtain ⟨p, c, l, ns, i, r, xs, rfl, pen, hi, nlp, hl, h1, h2, k⟩ := h
    refine ⟨_, pss_one (ps_ret (pe_ix ix_list (pv 1) (pe_call FD hr rfl mD kD bD .nil pass0 (pa_cons (pv 0) (pa_cons (pe_callB call_len_seq (by rfl) T.len PySem.boot_len (pa_cons (pv 1) pa_nil)) pa_nil))) (fun _ _ => rfl))), ?_⟩
    refine ⟨_, rfl, _, rfl, _, rfl, l, xs, rfl, .inl (SqL.of hl), p, c, ns, i, r, _, rfl, pen, hi, by omega, ?_, fun H' i' r' d b pen' g1 g2 d0 d1 => ?_⟩
    · exact Int.lt_of_le_of_lt (show (xs.length : Int) ≤ 1000 by omega) (by decide)
    · obtain ⟨j, ej⟩ : ∃ j : Nat, d = (j : Int) := ⟨d.toNat, (Int.toNat_of_nonneg d0).symm⟩
      have hj : j < xs.length := by omega
      refine ⟨l, xs, d, xs[j], rfl, rfl, SqL.of (b _ _ nlp hl), ?_, k H' i' r' _ b pen' g1 g2 (List.getElem_mem hj)⟩
      rw [ej]
      exact atI_nat (List.getElem?_eq_getElem hj)
end
end NB
namespace NB
open PySem L2
/-- no integer, as is_integer asks -/
def NotInt (K : PySem.W.Frag) (H : Hp) (v : V) : Prop := ∃ (t : Value) (b1 b2 : Bool), TyX K H v t ∧ PySem.W.kitOne K t (.type "int") = some b1 ∧ PySem.W.kitOne K t (.type "bool") = some b2 ∧ (b1 = false ∨ b2 = true)
section
variable {P : Program} {w : World} {K : PySem.W.Frag} {mg : Str → Option Value} {base : Heap}
abbrev sIsInt : Stmt := top 4
theorem scIsInt : FnScope ["value"] ["value"] (defScope sIsInt) := ⟨rfl, rfl, rfl, by decide +kernel, rfl, by decide +kernel, by decide +kernel⟩
def spIsInt (K : PySem.W.Frag) : Sp := fun vs H Q _ => ∃ v, vs = [v] ∧ ((∃ n, v = .int n ∧ Q (.bl true) H) ∨ (NotInt K H v ∧ Q (.bl false) H))
theorem ok_isint {f : Addr} {fd : FuncData} (F : Fun K "is_integer" "is_integer" sIsInt f fd) (T : Bi mg) : FnOk P w K mg base CX0 1 f fd ["value"] (spIsInt K) := by
  refine F.ok scIsInt (fun vs H Q E h => ?_) (fun cdv A outer s H vs Q E hr h => ?_)
  · obtain ⟨v, rfl, _⟩ := h
    rfl
  · obtain ⟨v, rfl, h⟩ := h
    refine ⟨_, pss_one (ps_ret (pe_and (pe_callB call_isi (by rfl) T.isinstance (by decide +kernel) (pa_cons (pv 0) (pa_cons (pe_bltn (v := .ty "int") (by rfl) T.int (by decide +kernel) rfl) pa_nil)))
      (pe_one (pe_not (pe_callB call_isi (by rfl) T.isinstance (by decide +kernel) (pa_cons (pv 0) (pa_cons (pe_bltn (v := .ty "bool") (by rfl) T.bool (by decide +kernel) rfl) pa_nil))))))), ?_⟩
    rcases h with ⟨n, rfl, q⟩ | ⟨⟨t, b1, b2, ty, k1, k2, c⟩, q⟩
    · exact ⟨_, rfl, _, _, _, _, true, rfl, .ty _, .base (.int n), rfl, true, rfl, iteT ⟨_, rfl, _, _, _, _, false, rfl, .ty _, .base (.int n), rfl, _, rfl, q⟩⟩
    · refine ⟨_, rfl, _, _, _, _, b1, rfl, .ty _, ty, k1, b1, rfl, ite2 (fun e => ?_) (fun _ => q)⟩
      rcases c with c | c
      · rw [c] at e
        cases e
      · subst c
        exact ⟨_, rfl, _, _, _, _, true, rfl, .ty _, ty, k2, _, rfl, q⟩
abbrev sBetw : Stmt := top 5
theorem scBetw : FnScope ["value", "low", "high"] ["value", "low", "high"] (defScope sBetw) := ⟨rfl, rfl, rfl, by decide +kernel, rfl, by decide +kernel, by decide +kernel⟩
def spBetw (K : PySem.W.Frag) : Sp := fun vs H Q _ => ∃ (v : V) (lo hi : Int), vs = [v, .int lo, .int hi] ∧ ((∃ n, v = .int n ∧ Q (.bl (decide (lo ≤ n) && decide (n ≤ hi))) H) ∨ (NotInt K H v ∧ Q (.bl false) H))
theorem ok_betw {f : Addr} {fd : FuncData} (F : Fun K "is_between" "is_between" sBetw f fd) (D : DefOf P w K mg base "is_integer" 1 ["value"] (spIsInt K)) : FnOk P w K mg base CX0 2 f fd ["value", "low", "high"] (spBetw K) := by
  obtain ⟨fD, fdD, FD, mD, kD, bD⟩ := D.ex
  refine F.ok scBetw (fun vs H Q E h => ?_) (fun cdv A outer s H vs Q E hr h => ?_)
  · obtain ⟨v, lo, hi, rfl, _⟩ := h
    rfl
  · obtain ⟨v, lo, hi, rfl, h⟩ := h
    refine ⟨_, pss_one (ps_ret (pe_and (pe_call FD hr rfl mD kD bD .nil pass0 (pa_cons (pv 0) pa_nil)) (pe_one (pe_chain op_le op_le (pv 1) (pv 0) (pv 2))))), ?_⟩
    rcases h with ⟨n, rfl, q⟩ | ⟨ni, q⟩
    · refine ⟨_, rfl, _, rfl, .inl ⟨n, rfl, true, rfl, iteT ?_⟩⟩
      refine ⟨_, rfl, _, rfl, _, _, rfl, rfl, _, rfl, ite2 (fun a => ⟨_, rfl, _, _, rfl, rfl, ?_⟩) (fun a => ?_)⟩
      · rw [a, Bool.true_and] at q
        exact q
      · rw [Bool.eq_false_iff.mpr a, Bool.false_and] at q
        exact q
    · exact ⟨_, rfl, _, rfl, .inr ⟨ni, false, rfl, q⟩⟩
/-- the last day -/
abbrev MD : Int := 999999999999
abbrev dayB (n : Int) : Bool := decide (-MD ≤ n) && decide (n ≤ MD)
abbrev sDay : Stmt := top 6
theorem scDay : FnScope ["value"] ["value"] (defScope sDay) := ⟨rfl, rfl, rfl, by decide +kernel, rfl, by decide +kernel, by decide +kernel⟩
def spDay (K : PySem.W.Frag) : Sp := fun vs H Q _ => ∃ (v : V), vs = [v] ∧ ((∃ n, v = .int n ∧ Q (.bl (dayB n)) H) ∨ (NotInt K H v ∧ Q (.bl false) H))
theorem ok_day {f : Addr} {fd : FuncData} {t : Tok} (F : Fun K "is_day" "is_day" sDay f fd) (mM : mg "MOST_DAY" = some (.int MD t)) (D : DefOf P w K mg base "is_between" 2 ["value", "low", "high"] (spBetw K)) : FnOk P w K mg base CX0 3 f fd ["value"] (spDay K) := by
  obtain ⟨fD, fdD, FD, mD, kD, bD⟩ := D.ex
  refine F.ok scDay (fun vs H Q E h => ?_) (fun cdv A outer s H vs Q E hr h => ?_)
  · obtain ⟨v, rfl, _⟩ := h
    rfl
  · obtain ⟨v, rfl, h⟩ := h
    refine ⟨_, pss_one (ps_ret (pe_call FD hr rfl mD kD bD .nil pass0 (pa_cons (pv 0) (pa_cons (pe_un un_neg (pe_glob (v := .int MD) (by rfl) mM ⟨_, rfl⟩)) (pa_cons (pe_glob (v := .int MD) (by rfl) mM ⟨_, rfl⟩) pa_nil))))), ?_⟩
    exact ⟨v, rfl, _, rfl, v, -MD, MD, rfl, h⟩
end
end NB
namespace NB
open PySem L2
section
variable {P : Program} {w : World} {K : PySem.W.Frag} {mg : Str → Option Value} {base : Heap}
abbrev sIBadStay : Stmt := inClass (top 12) 0
theorem scIBadStay : FnScope ["self", "part"] ["self", "part"] (defScope sIBadStay) := ⟨rfl, rfl, rfl, by decide +kernel, rfl, by decide +kernel, by decide +kernel⟩
theorem okIBadStay {f C : Addr} {fd : FuncData} (F : Fun K "__init__" "BadStay.__init__" sIBadStay f fd) (T : OexC K C) (hn : PySem.W.findIn K (.ref C) "part" = some none) :
    FnOk P w K mg base CX0 1 f fd ["self", "part"] (spI C ["part"]) ∧ Binds K fd ["self", "part"] [] := by
  refine ⟨F.ok scIBadStay (fun vs H Q E h => ?_) (fun cdv A outer s H vs Q E hr h => ?_), F.binds (fun _ _ _ _ _ _ us hl => match us, hl with | [_, _], _ => rfl)⟩
  · obtain ⟨a, ws, rfl, hl, _⟩ := h
    rw [List.length_cons, hl]
    rfl
  · obtain ⟨a, ws, rfl, hl, ha, k⟩ := h
    match ws, hl with
    | [v], _ =>
      refine ⟨_, pss_one (ps_ost (pv 0) (pv 1)), ?_⟩
      refine ⟨_, rfl, _, rfl, a, C, rfl, T, hn, .inl ⟨ha, fun dx hdx ne => ?_⟩⟩
      exact k _ dx (fun b o n e => by rw [upd_ne n, upd_ne (ne_of_none e hdx)]; exact e) hdx upd_same (by rw [upd_ne ne]; exact upd_same)
/-- an error of the class at B with the part p leaves -/
def BadE (B : Addr) (E : XK) (H : Hp) (p : V) : Prop := ∀ (H' : Hp) (dd : Addr), Same H H' → H' dd = some (.xd [("part", p)]) → E (.ref B) (some dd) H'
theorem BadE.keep {B : Addr} {E : XK} {H H1 : Hp} {p : V} (b : BadE B E H p) (s : Same H H1) : BadE B E H1 p := fun H' dd s' e => b H' dd (s.trans s') e
theorem mk_bad {B : Addr} {E : XK} {H : Hp} {p : V} {σ : SV} (h : BadE B E H p) : tMkO B (spI B ["part"]) [] (tCons (tC p) tNil) σ H E := by
  refine ⟨by show 1 ≤ 1000; decide, fun a ha => ⟨a, [p], rfl, rfl, upd_same, fun H' d b hd ea ed => ⟨rfl, d, _, ea, ed, (fresh_upd hd).2, ?_⟩⟩⟩
  refine h _ d (fun x o e => ?_) upd_same
  have n1 := ne_of_none e ha
  have n2 := ne_of_none e (fresh_upd hd).2
  rw [upd_ne n2, del_ne n1]
  exact b x o n1 (by rw [upd_ne n1]; exact e)
/-- the facts of the class BadStay -/
structure Bad (P : Program) (w : World) (K : PySem.W.Frag) (mg : Str → Option Value) (base : Heap) (x : Str) (B : Addr) : Prop where
  mgC : mg x = some (.ref B)
  oex : OexC K B
  nf : PySem.W.findIn K (.ref B) "part" = some none
  ini : ∃ (fI : Addr) (fd : FuncData), PySem.W.findIn K (.ref B) "__init__" = some (some (.ref fI)) ∧ PySem.W.typeIn K (.ref fI) = some (.type "function") ∧
    FnOk P w K mg base CX0 1 fI fd ["self", "part"] (spI B ["part"]) ∧ Binds K fd ["self", "part"] []
end
section
variable {X : Cx} {B : Addr} {x : Str}
theorem ps_bad {W : WX} {z : Str} {p1 p2 p3 p4 : Pos} {j : Nat} (Bd : Bad X.prog X.w X.K X.mg X.base x B) (hr : Room 2 X.A) (hg : Gl X x) (hc : X.calm = true) (tk : Takes X W) (hdb : (x == ("__debug__" : Str)) = false := by decide) :
    PS X (.Raise (some (.Call (.Name x p1) [.Constant (.str z) j p2] [] p3)) none p4) (fun _ σ H => BadE B (fun cls d H' => W cls d σ H') H (.str z)) := by
  obtain ⟨fI, fd, h1, h2, F, hb⟩ := Bd.ini
  have q := ps_raise (pos := p4) hc tk (pmk_oex (p := p1) (pos := p3) Bd.oex h1 h2 F hr hb .nil pass0 hg Bd.mgC (pa_cons (pe_str (x := z) (j := j) (pos := p2)) pa_nil) hdb)
  exact ⟨fun pins s σ H D I h => q.run pins s σ H D I (mk_bad h)⟩
end
/-- what makes a stay -/
structure StayOk (f t : Int) : Prop where
  d1 : dayB f = true
  d2 : dayB t = true
  lt : f < t
  le : t ≤ f + 400
/-- the stay at a -/
structure IsStay (H : Hp) (C a : Addr) (f t : Int) : Prop where
  ex : ∃ dx n, H a = some (.ins C dx [("first", .int f), ("after", .int t), ("nights", .ref n)]) ∧ H n = some (.tup (rgV f t))
  ok : StayOk f t
theorem IsStay.keep {H H' : Hp} {C a : Addr} {f t : Int} (h : IsStay H C a f t) (s : Same H H') : IsStay H' C a f t := by
  obtain ⟨⟨dx, n, e1, e2⟩, ok⟩ := h
  exact ⟨⟨dx, n, s _ _ e1, s _ _ e2⟩, ok⟩
theorem IsStay.but {p c : Addr} {ns : List Int} {i r : Int} {H H' : Hp} {C a : Addr} {f t : Int} (h : IsStay H C a f t) (s : But p H H') (pen : Pen H p c ns i r) : IsStay H' C a f t := by
  obtain ⟨⟨dx, n, e1, e2⟩, ok⟩ := h
  refine ⟨⟨dx, n, s _ _ (fun z => ?_) e1, s _ _ (fun z => ?_) e2⟩, ok⟩
  · rw [z, pen.pen] at e1
    cases e1
  · rw [z, pen.pen] at e2
    cases e2
/-- the facts of the class Stay -/
structure StC (K : PySem.W.Frag) (C : Addr) : Prop where
  cl : Cls K C
  n1 : NoAttr K C "first"
  n2 : NoAttr K C "after"
  n3 : NoAttr K C "nights"
section
variable {P : Program} {w : World} {K : PySem.W.Frag} {mg : Str → Option Value} {base : Heap} {B C : Addr}
def DayV (K : PySem.W.Frag) (H : Hp) (v : V) (b : Bool) : Prop := (∃ n, v = .int n ∧ b = dayB n) ∨ (NotInt K H v ∧ b = false)
theorem DayV.sp {H : Hp} {v : V} {b : Bool} {Q : VK} {E : XK} (d : DayV K H v b) (q : Q (.bl b) H) : spDay K [v] H Q E := by
  rcases d with ⟨n, rfl, rfl⟩ | ⟨n, rfl⟩
  · exact ⟨_, rfl, .inl ⟨n, rfl, q⟩⟩
  · exact ⟨_, rfl, .inr ⟨n, q⟩⟩
theorem rd_day {σ : SV} {H : Hp} {i : Nat} {v : V} {b : Bool} {QB : Bool → Hp → Prop} (h0 : σ[i]? = some (some v)) (d : DayV K H v b) (q : QB b H) : tB (tCall (spDay K) [] E0 (tCons (tVar i) tNil)) σ H QB :=
  ⟨v, h0, (d.sp (E := E0) ⟨b, rfl, q⟩ : spDay K [v] H (fun x H1 => ∃ c, x = V.bl c ∧ QB c H1) E0)⟩
theorem rd_not {A : TT} {σ : SV} {H : Hp} {QB : Bool → Hp → Prop} (h : A σ H fun c H1 => QB (!c) H1) : tNot A σ H QB := h
abbrev sStay (i : Nat) : Stmt := inClass (top 16) i
theorem scSInit : FnScope ["self", "first", "after"] ["self", "first", "after"] (defScope (sStay 1)) := ⟨rfl, rfl, rfl, by decide +kernel, rfl, by decide +kernel, by decide +kernel⟩
def spSInit (K : PySem.W.Frag) (B C : Addr) : Sp := fun vs H Q E => ∃ (a dx : Addr) (v u : V), vs = [.ref a, v, u] ∧ H a = some (.ins C dx []) ∧
  ((∃ f t, v = .int f ∧ u = .int t ∧ StayOk f t ∧ ∀ (H' : Hp) (n : Addr), But a H H' → H' a = some (.ins C dx [("first", .int f), ("after", .int t), ("nights", .ref n)]) → H' n = some (.tup (rgV f t)) → Q .non H') ∨
  ((NotInt K H v ∨ ∃ f, v = .int f ∧ dayB f = false) ∧ BadE B E H (.str "first")) ∨
  (∃ f, v = .int f ∧ dayB f = true ∧ (NotInt K H u ∨ ∃ t, u = .int t ∧ (dayB t && (decide (f < t) && decide (t ≤ f + 400))) = false) ∧ BadE B E H (.str "after")))
theorem ok_sinit {f : Addr} {fd : FuncData} {t : Tok} (F : Fun K "__init__" "Stay.__init__" (sStay 1) f fd) (T : Bi mg) (mN : mg "MOST_NIGHTS" = some (.int 400 t)) (S : StC K C) (Bd : Bad P w K mg base "BadStay" B) (D : DefOf P w K mg base "is_day" 3 ["value"] (spDay K)) :
    FnOk P w K mg base (CX P w) 4 f fd ["self", "first", "after"] (spSInit K B C) := by
  obtain ⟨fD, fdD, FD, mD, kD, bD⟩ := D.ex
  refine F.okX scSInit (fun vs H Q E h => ?_) (fun cdv A outer s H vs Q E hr h => ?_)
  · obtain ⟨a, dx, v, u, rfl, _⟩ := h
    rfl
  · obtain ⟨a, dx, v, u, rfl, ha, h⟩ := h
    refine ⟨_, pss_cons (ps_if (pt_not (pt_val (pe_call FD hr rfl mD kD bD .nil pass0 (pa_cons (pv 1) pa_nil)))) (pss_one (ps_bad Bd (hr.mono (by decide)) rfl rfl (takes_of rfl rfl rfl rfl))) pss_nil)
      (pss_cons (ps_if (PW.pt (pw_or (pt_not (pt_val (pe_call FD hr rfl mD kD bD .nil pass0 (pa_cons (pv 2) pa_nil)))) (pw_or1 (pt_not (pt_chain op_lt op_le (pv 1) (pv 2) (pe_op op_add (pv 1) (pe_glob (v := .int 400) (by rfl) mN ⟨_, rfl⟩)))))))
        (pss_one (ps_bad Bd (hr.mono (by decide)) rfl rfl (takes_of rfl rfl rfl rfl))) pss_nil)
      (pss_cons (ps_fld (pv 0) (pv 1) rfl) (pss_cons (ps_fld (pv 0) (pv 2) rfl) (pss_one (ps_fld (pv 0) (pe_tupRg rfl (by rfl) T.tuple (prg_2 (by rfl) T.range (pv 1) (pv 2))) rfl))))), ?_⟩
    rcases h with ⟨f, t, rfl, rfl, ok, k⟩ | ⟨c, k⟩ | ⟨f, rfl, d, c, k⟩
    · refine rd_sif0 (rd_not (rd_day rfl (.inl ⟨f, rfl, ok.d1.symm⟩) (iteF ?_)))
      refine rd_sif0 (rd_or (rd_not (rd_day rfl (.inl ⟨t, rfl, ok.d2.symm⟩) (iteF (rd_not (rd_test ?_))))))
      refine ⟨_, rfl, _, rfl, _, _, rfl, rfl, _, rfl, ite2 (fun _ => ?_) (fun c => absurd (decide_eq_true ok.lt) c)⟩
      refine ⟨_, rfl, _, _, rfl, rfl, _, _, rfl, rfl, _, rfl, ?_⟩
      refine ite2 (fun c => ?_) (fun _ => ?_)
      · rw [decide_eq_true ok.le] at c
        cases c
      · have m1 := ok.d1
        have m2 := ok.d2
        simp only [dayB, MD, Bool.and_eq_true, decide_eq_true_eq] at m1 m2
        have m3 := ok.lt
        have m4 := ok.le
        refine ⟨_, rfl, _, rfl, a, C, dx, _, rfl, ha, S.cl, S.n1, by show 0 < 1000; decide, ?_⟩
        refine ⟨_, rfl, _, rfl, a, C, dx, _, rfl, upd_same, S.cl, S.n2, by show 1 < 1000; decide, ?_⟩
        refine ⟨_, rfl, _, rfl, _, _, rfl, rfl, ⟨by omega, by omega, by omega, by omega, by omega⟩, fun q hq => ?_⟩
        obtain ⟨nq, hq⟩ := fresh_upd hq
        obtain ⟨_, hq⟩ := fresh_upd hq
        refine ⟨_, rfl, a, C, dx, _, rfl, by rw [upd_ne nq.symm]; exact upd_same, S.cl, S.n3, by show 2 < 1000; decide, ?_⟩
        refine k _ q (fun x o n e => ?_) upd_same (by rw [upd_ne nq]; exact upd_same)
        rw [upd_ne n, upd_ne (ne_of_none e hq), upd_ne n, upd_ne n]
        exact e
    · have d : DayV K H v false := by
        rcases c with c | ⟨f, rfl, e⟩
        · exact .inr ⟨c, rfl⟩
        · exact .inl ⟨f, rfl, e.symm⟩
      refine rd_sif0 (rd_not (rd_day rfl d ?_))
      exact iteT k
    · refine rd_sif0 (rd_not (rd_day rfl (.inl ⟨f, rfl, d.symm⟩) (iteF ?_)))
      refine rd_sif0 (rd_or (rd_not ?_))
      rcases c with c | ⟨t, rfl, c⟩
      · exact rd_day rfl (.inr ⟨c, rfl⟩) (iteT (iteT k))
      · refine rd_day rfl (.inl ⟨t, rfl, rfl⟩) ?_
        refine ite2 (fun _ => iteT k) (fun c1 => rd_not (rd_test ?_))
        have c1 : dayB t = true := by
          cases h : dayB t
          · rw [h] at c1
            exact absurd rfl c1
          · rfl
        refine ⟨_, rfl, _, rfl, _, _, rfl, rfl, _, rfl, ite2 (fun c2 => ?_) (fun c2 => ⟨_, rfl, iteT k⟩)⟩
        refine ⟨_, rfl, _, _, rfl, rfl, _, _, rfl, rfl, _, rfl, ?_⟩
        rw [c1, Bool.true_and, c2, Bool.true_and] at c
        refine ite2 (fun _ => k) (fun c3 => ?_)
        rw [c] at c3
        exact absurd rfl c3
end
end NB
namespace NB
open PySem L2
/-- the part that is wrong with a stay -/
def stayBad (f t : Int) : Option Str := if dayB f = true then (if (dayB t && (decide (f < t) && decide (t ≤ f + 400))) = true then none else some "after") else some "first"
theorem stayBad_ok {f t : Int} (h : stayBad f t = none) : StayOk f t := by
  unfold stayBad at h
  split at h
  · split at h
    · rename_i h1 h2
      simp only [Bool.and_eq_true, decide_eq_true_eq] at h2
      exact ⟨h1, by simp only [Bool.and_eq_true, decide_eq_true_eq]; exact h2.1, h2.2.1, h2.2.2⟩
    · cases h
  · cases h
theorem stayBad_none {f t : Int} (h : StayOk f t) : stayBad f t = none := by
  unfold stayBad
  rw [if_pos h.d1, if_pos]
  rw [h.d2, decide_eq_true h.lt, decide_eq_true h.le]
  rfl
section
variable {P : Program} {w : World} {K : PySem.W.Frag} {mg : Str → Option Value} {base : Heap} {B C : Addr}
theorem mk_stay {H : Hp} {Q : Addr → Hp → Prop} {E : XK} {f t : Int} (h0 : stayBad f t = none → ∀ H' a, Same H H' → IsStay H' C a f t → Q a H') (h1 : ∀ p, stayBad f t = some p → BadE B E H (.str p)) :
    ∀ x dx, H x = none → H dx = none → dx ≠ x → spSInit K B C [.ref x, .int f, .int t] (upd (upd H dx (.own x)) x (.ins C dx [])) (fun v H2 => v = .non ∧ Q x H2) E := by
  intro x dx hx hdx ne
  have s1 : Same H (upd (upd H dx (.own x)) x (.ins C dx [])) := fun b o e => by
    rw [upd_ne (ne_of_none e hx), upd_ne (ne_of_none e hdx)]
    exact e
  refine ⟨x, dx, _, _, rfl, upd_same, ?_⟩
  cases e : stayBad f t with
  | none =>
    have ok := stayBad_ok e
    refine .inl ⟨f, t, rfl, rfl, ok, fun H' n b e1 e2 => ⟨rfl, h0 e H' x (fun y o q => ?_) ⟨⟨dx, n, e1, e2⟩, ok⟩⟩⟩
    exact b y o (ne_of_none q hx) (s1 y o q)
  | some p =>
    have k := (h1 p e).keep s1
    unfold stayBad at e
    split at e
    · rename_i d
      split at e
      · cases e
      · rename_i d2
        cases e
        exact .inr (.inr ⟨f, rfl, d, .inr ⟨t, rfl, Bool.eq_false_iff.mpr d2⟩, k⟩)
    · rename_i d
      cases e
      exact .inr (.inl ⟨.inr ⟨f, rfl, Bool.eq_false_iff.mpr d⟩, k⟩)
/-- Stay(..) -/
structure StD (P : Program) (w : World) (K : PySem.W.Frag) (mg : Str → Option Value) (base : Heap) (B C : Addr) : Prop where
  cls : StC K C
  mgC : mg "Stay" = some (.ref C)
  ini : ∃ (fI : Addr) (fd : FuncData), Mk K C fI ∧ FnOk P w K mg base (CX P w) 4 fI fd ["self", "first", "after"] (spSInit K B C) ∧ Binds K fd ["self", "first", "after"] []
  ca : PySem.W.findIn K (.ref C) "__class__" = some (some (.builtin "object.__class__"))
  cn : PySem.W.specialIn K (.builtin "object.__class__") "__get__" = some (some (.builtin "getset_descriptor.__get__"))
  ct : PySem.W.takesIn K (.builtin "object.__class__") = some true
  cm : PySem.W.mroIn K C (.type "object") = some true
  kc : PySem.W.kitOne K (.ref C) (.ref C) = some true
theorem StD.ty (S : StD P w K mg base B C) {H : Hp} {a : Addr} {f t : Int} (h : IsStay H C a f t) : TyX K H (.ref a) (.ref C) := by
  obtain ⟨⟨dx, n, e1, e2⟩, _⟩ := h
  exact .base (.ins e1 S.cls.cl S.ca S.cn S.ct S.cm)
/-- o.first, o.after -/
theorem rd_firstV {σ : SV} {H : Hp} {i : Nat} {a : Addr} {f t : Int} {Q : VK} (S : StC K C) (h0 : σ[i]? = some (some (.ref a))) (h : IsStay H C a f t) (q : Q (.int f) H) : tFld K (tVar i) "first" σ H Q := by
  obtain ⟨⟨dx, n, e1, e2⟩, _⟩ := h
  exact ⟨_, h0, a, C, dx, _, _, rfl, e1, S.cl, S.n1, rfl, q⟩
theorem rd_afterV {σ : SV} {H : Hp} {i : Nat} {a : Addr} {f t : Int} {Q : VK} (S : StC K C) (h0 : σ[i]? = some (some (.ref a))) (h : IsStay H C a f t) (q : Q (.int t) H) : tFld K (tVar i) "after" σ H Q := by
  obtain ⟨⟨dx, n, e1, e2⟩, _⟩ := h
  exact ⟨_, h0, a, C, dx, _, _, rfl, e1, S.cl, S.n2, rfl, q⟩
theorem rd_nightsV {σ : SV} {H : Hp} {i : Nat} {a : Addr} {f t : Int} {Q : VK} (S : StC K C) (h0 : σ[i]? = some (some (.ref a))) (h : IsStay H C a f t) (q : ∀ n, H n = some (.tup (rgV f t)) → Q (.ref n) H) : tFld K (tVar i) "nights" σ H Q := by
  obtain ⟨⟨dx, n, e1, e2⟩, _⟩ := h
  exact ⟨_, h0, a, C, dx, _, _, rfl, e1, S.cl, S.n3, rfl, q n e2⟩
theorem rd_make {sp : Sp} {E : XK} {ta : TA} {σ : SV} {H : Hp} {Q : VK} (h : ta σ H fun vs H1 => ∀ x dx, H1 x = none → H1 dx = none → dx ≠ x → sp (.ref x :: vs) (upd (upd H1 dx (.own x)) x (.ins C dx [])) (fun v H2 => v = .non ∧ Q (.ref x) H2) E) (m : ∀ vs, (vs ++ ([] : List V)) = vs := by intro vs; exact List.append_nil vs) : tMake C sp [] E ta σ H Q := by
  unfold tMake
  simp only [List.append_nil]
  exact h
theorem dummyM : True := trivial
theorem scS10 : FnScope ["self", "other"] ["self", "other"] (defScope (sStay 10)) := ⟨rfl, rfl, rfl, by decide +kernel, rfl, by decide +kernel, by decide +kernel⟩
theorem scS11 : FnScope ["self"] ["self"] (defScope (sStay 11)) := ⟨rfl, rfl, rfl, by decide +kernel, rfl, by decide +kernel, by decide +kernel⟩
theorem dec_v {i j : Int} : decide (V.int i = V.int j) = decide (i = j) := by
  by_cases h : i = j
  · rw [h, decide_eq_true rfl, decide_eq_true rfl]
  · rw [decide_eq_false h, decide_eq_false fun z => h (V.int.inj z)]
/-- equal to v -/
def EqV (K : PySem.W.Frag) (C : Addr) (H : Hp) (f t : Int) (v : V) (r : Bool) : Prop :=
  (∃ b g u, v = .ref b ∧ IsStay H C b g u ∧ r = (decide (f = g) && decide (t = u))) ∨ (∃ ty, TyX K H v ty ∧ PySem.W.kitOne K ty (.ref C) = some false ∧ r = false)
def spSEq (K : PySem.W.Frag) (C : Addr) : Sp := fun vs H Q _ => ∃ (a : Addr) (f t : Int) (v : V) (r : Bool), vs = [.ref a, v] ∧ IsStay H C a f t ∧ EqV K C H f t v r ∧ Q (.bl r) H
theorem ok_seq {f : Addr} {fd : FuncData} (F : Fun K "__eq__" "Stay.__eq__" (sStay 10) f fd) (T : Bi mg) (S : StD P w K mg base B C) : FnOk P w K mg base CX0 1 f fd ["self", "other"] (spSEq K C) := by
  refine F.ok scS10 (fun vs H Q E h => ?_) (fun cdv A outer s H vs Q E hr h => ?_)
  · obtain ⟨a, f, t, v, r, rfl, _⟩ := h
    rfl
  · obtain ⟨a, f, t, v, r, rfl, ha, e, q⟩ := h
    refine ⟨_, pss_one (ps_ret (pe_and (pe_callB call_isi (by rfl) T.isinstance (by decide +kernel) (pa_cons (pv 1) (pa_cons (pe_glob (v := .ref C) (by rfl) S.mgC rfl) pa_nil)))
      (pe_and (pe_cmpR op_eq (pe_fld (pv 0) rfl) (pe_fld (pv 1) rfl) (nomark _)) (pe_one (pe_cmpR op_eq (pe_fld (pv 0) rfl) (pe_fld (pv 1) rfl) (nomark _)))))), ?_⟩
    rcases e with ⟨b, g, u, rfl, hb, rfl⟩ | ⟨ty, ht, kk, rfl⟩
    · refine rd_ret (rd_andV (rd_cb (rd_cons (rd_var rfl (rd_cons (rd_c (rd_nil ⟨_, _, _, _, true, rfl, .own C, S.ty hb, S.kc, _, rfl, iteT ?_⟩)))))))
      refine rd_andV (rd_op (rd_firstV S.cls rfl ha (rd_firstV S.cls rfl hb ⟨rfl, _, rfl, ?_⟩)))
      rw [dec_v]
      refine ite2 (fun c => ?_) (fun c => ?_)
      · refine rd_op (rd_afterV S.cls rfl ha (rd_afterV S.cls rfl hb ⟨rfl, ?_⟩))
        rw [dec_v]
        rw [c, Bool.true_and] at q
        exact q
      · rw [Bool.eq_false_iff.mpr c, Bool.false_and] at q
        exact q
    · exact rd_ret (rd_andV (rd_cb (rd_cons (rd_var rfl (rd_cons (rd_c (rd_nil ⟨_, _, _, _, false, rfl, .own C, ht, kk, _, rfl, iteF q⟩)))))))
theorem rd_js {te : TE} {ts : List TE} {acc : Str} {σ : SV} {H : Hp} {Q : Str → Hp → Prop} (h : te σ H fun x H1 => ∃ y : Str, x = .str y ∧ (acc ++ y).length ≤ sizeLine ∧ tJs ts (acc ++ y) σ H1 Q) : tJs (te :: ts) acc σ H Q := h
theorem rd_fmt {te : TE} {σ : SV} {H : Hp} {Q : VK} (h : te σ H fun x H1 => (∃ y : Str, x = .str y ∧ y.length ≤ sizeLine ∧ Q (.str y) H1) ∨ ∃ i : Int, x = .int i ∧ i.natAbs.log2 < 1920 ∧ Q (.str (toString i)) H1) : tFmt te σ H Q := h
theorem txt_le {i : Int} (h : i.natAbs < 10 ^ 13) : (Str.ofString (toString i)).length ≤ 14 := by
  rw [ofString_length]
  exact int_text_length_le10 (k := 13) (by decide) h
theorem log_lt {i : Int} (h : i.natAbs < 10 ^ 13) : i.natAbs.log2 < 1920 := Nat.lt_of_lt_of_le (PySem.Flt.log2_lt_of (n := i.natAbs) (k := 44) (by decide) (Nat.lt_of_lt_of_le h (by decide))) (by decide)
/-- the text of a stay -/
def stayTxt (f t : Int) : Str := ((Str.empty ++ Str.ofString (toString f)) ++ Str.ofString "+") ++ Str.ofString (toString (t - f))
def spSStr (C : Addr) : Sp := fun vs H Q _ => ∃ (a : Addr) (f t : Int), vs = [.ref a] ∧ IsStay H C a f t ∧ Q (.str (stayTxt f t)) H
theorem ok_sstr {f : Addr} {fd : FuncData} (F : Fun K "__str__" "Stay.__str__" (sStay 11) f fd) (T : Bi mg) (S : StC K C) : FnOk P w K mg base CX0 1 f fd ["self"] (spSStr C) := by
  refine F.ok scS11 (fun vs H Q E h => ?_) (fun cdv A outer s H vs Q E hr h => ?_)
  · obtain ⟨a, f, t, rfl, _⟩ := h
    rfl
  · obtain ⟨a, f, t, rfl, ha, q⟩ := h
    refine ⟨_, pss_one (ps_ret (pe_joined (.cons (pe_fmt (pe_fld (pv 0) rfl)) (.cons pe_str (.cons (pe_fmt (pe_callB call_len_seq (by rfl) T.len PySem.boot_len (pa_cons (pe_fld (pv 0) rfl) pa_nil))) .nil))))), ?_⟩
    have m1 := ha.ok.d1
    simp only [dayB, MD, Bool.and_eq_true, decide_eq_true_eq] at m1
    have m3 := ha.ok.lt
    have m4 := ha.ok.le
    have f1 : f.natAbs < 10 ^ 13 := Nat.lt_of_le_of_lt (show f.natAbs ≤ 999999999999 by omega) (by decide)
    have f2 : (t - f).natAbs < 10 ^ 13 := Nat.lt_of_le_of_lt (show (t - f).natAbs ≤ 400 by omega) (by decide)
    have l1 := txt_le f1
    have l2 := txt_le f2
    have l3 : (Str.ofString "+").length = 1 := rfl
    have l0 : Str.empty.length = 0 := rfl
    refine rd_ret (rd_js (rd_fmt (rd_firstV S rfl ha (.inr ⟨f, rfl, log_lt f1, _, rfl, ?_, rd_js (rd_c ⟨_, rfl, ?_, rd_js (rd_fmt (rd_cb (rd_cons (rd_nightsV S rfl ha fun n hn => rd_nil ⟨n, _, rfl, .inr (.inl (.inl hn)), .inr ⟨_, rfl, ?_⟩⟩))))⟩)⟩))))
    · rw [Str.length_append, l0, sizeLine_eq]
      omega
    · rw [Str.length_append, Str.length_append, l0, l3, sizeLine_eq]
      omega
    · rw [rgV_length, Int.toNat_of_nonneg (by omega)]
      refine ⟨log_lt f2, _, rfl, ?_, q⟩
      rw [Str.length_append, Str.length_append, Str.length_append, l0, l3, sizeLine_eq]
      omega
end
end NB
namespace NB
open PySem L2
structure OwnMP (P : Program) (w : World) (K : PySem.W.Frag) (mg : Str → Option Value) (base : Heap) (CX : CXT) (k : Nat) (C : Addr) (m : Str) (sp : Sp) : Prop where
  ex : ∃ (f : Addr) (fd : FuncData) (ps : List Str), FnOk P w K mg base CX k f fd ps sp ∧ Binds K fd ps [] ∧ PySem.W.findIn K (.ref C) m = some (some (.ref f)) ∧ PySem.W.isFn K (.ref f) = true
theorem OwnMP.at_ {X : Cx} {CX : CXT} {k : Nat} {C : Addr} {m : Str} {sp : Sp} (h : OwnMP X.prog X.w X.K X.mg X.base CX k C m sp) : OwnM X CX k C m sp := ⟨h.ex⟩
abbrev dn (op : Operator) : Str := PySem.dunder op.info.2
/-- the class Stay -/
structure StE (P : Program) (w : World) (K : PySem.W.Frag) (mg : Str → Option Value) (base : Heap) (B C : Addr) : Prop extends StD P w K mg base B C where
  eqm : OwnMP P w K mg base CX0 1 C "__eq__" (spSEq K C)
  ne : PySem.W.findIn K (.ref C) "__ne__" = some (some (.builtin "object.__ne__"))
  nf : PySem.W.notFirst K C (.ref C) = true
section
variable {P : Program} {w : World} {K : PySem.W.Frag} {mg : Str → Option Value} {base : Heap} {B C : Addr} {H : Hp} {Q : VK} {a b : Addr} {f t g u k : Int}
theorem rd_eqS (S : StE P w K mg base B C) (ha : IsStay H C a f t) (hb : IsStay H C b g u) (q : Q (.bl (decide (f = g) && decide (t = u))) H) : rEqO K C (spSEq K C) E0 (.ref a) (.ref b) H Q := by
  have h' := ha
  obtain ⟨⟨dx, n, e1, e2⟩, _⟩ := h'
  exact ⟨a, dx, _, .ref C, rfl, e1, S.ty hb, S.nf, a, f, t, .ref b, _, rfl, ha, .inl ⟨b, g, u, rfl, hb, rfl⟩, _, rfl, q⟩
theorem rd_neS (S : StE P w K mg base B C) (ha : IsStay H C a f t) (hb : IsStay H C b g u) (q : Q (.bl (!(decide (f = g) && decide (t = u)))) H) : rNeO K C (spSEq K C) E0 (.ref a) (.ref b) H Q := by
  have h' := ha
  obtain ⟨⟨dx, n, e1, e2⟩, _⟩ := h'
  exact ⟨a, dx, _, .ref C, rfl, e1, S.ty hb, S.nf, a, f, t, .ref b, _, rfl, ha, .inl ⟨b, g, u, rfl, hb, rfl⟩, _, rfl, q⟩
theorem small_int {i : Int} (h : i.natAbs < 10 ^ 13) : Small (.int i) := by
  refine ⟨decide_eq_true (log_lt h), by show 0 ≤ 10; decide, ?_⟩
  show (Str.ofString (toString i)).length ≤ 1000
  exact Nat.le_trans (txt_le h) (by decide)
theorem small_ints {ns : List Int} (h : ∀ i ∈ ns, i.natAbs < 10 ^ 13) : ∀ d ∈ ns.map PyData.int, Small d := fun d hd => by
  obtain ⟨i, hi, rfl⟩ := List.mem_map.mp hd
  exact small_int (h i hi)
theorem dr_ints {K : PySem.W.Frag} {H : Hp} : ∀ ns : List Int, DRs K H (ns.map V.int) (ns.map PyData.int)
  | [] => .nil
  | n :: ns => .cons (.int n) (dr_ints ns)
theorem Pen.same {H H' : Hp} {p c : Addr} {ns : List Int} {i r : Int} (h : Pen H p c ns i r) (s : Same H H') : Pen H' p c ns i r := ⟨s _ _ h.pen, s _ _ h.cells, h.lo, h.few⟩
theorem But.same {p : Addr} {H H1 H2 : Hp} (b : But p H H1) (s : Same H1 H2) : But p H H2 := fun x o n e => s _ _ (b x o n e)
theorem rd_neE (S : StE P w K mg base B C) (ha : IsStay H C a f t) (hb : IsStay H C b g u) (e1 : f = g) (e2 : t = u) (q : Q (.bl false) H) : rNeO K C (spSEq K C) E0 (.ref a) (.ref b) H Q := by
  refine rd_neS S ha hb ?_
  rw [decide_eq_true e1, decide_eq_true e2]
  exact q
theorem rd_eqE (S : StE P w K mg base B C) (ha : IsStay H C a f t) (hb : IsStay H C b g u) (e1 : f = g) (e2 : t = u) (q : Q (.bl true) H) : rEqO K C (spSEq K C) E0 (.ref a) (.ref b) H Q := by
  refine rd_eqS S ha hb ?_
  rw [decide_eq_true e1, decide_eq_true e2]
  exact q
theorem rd_call {sp : Sp} {E : XK} {ta : TA} {σ : SV} {H : Hp} {Q : VK} (h : ta σ H fun vs H1 => sp vs H1 Q E) : tCall sp [] E ta σ H Q := by
  unfold tCall
  simp only [List.append_nil]
  exact h
theorem rd_saug {i : Nat} {te : TE} {ti : TIp} {t2 : TS} {D : Ends} {σ : SV} {H : Hp} {x : V} (h0 : σ[i]? = some (some x)) (h : te σ H fun y H1 => ti x y H1 fun z H2 => t2 D (σ.set i (some z)) H2) : tSeq (tAug i te ti) t2 D σ H := ⟨x, h0, h⟩
end
theorem IsStay.butN {p c : Addr} {ns : List Int} {i r : Int} {H H' : Hp} {C a : Addr} {f t : Int} (h : IsStay H C a f t) (s : ButN p H H') (pen : Pen H p c ns i r) : IsStay H' C a f t := by
  obtain ⟨⟨dx, n, e1, e2⟩, ok⟩ := h
  refine ⟨⟨dx, n, s _ _ (fun z => ?_) e1 (fun _ z => nomatch z), s _ _ (fun z => ?_) e2 (fun _ z => nomatch z)⟩, ok⟩
  · rw [z, pen.pen] at e1
    cases e1
  · rw [z, pen.pen] at e2
    cases e2
theorem IsStay.extN {H H' : Hp} {C a : Addr} {f t : Int} (h : IsStay H C a f t) (s : LamX.ExtN H H') : IsStay H' C a f t := by
  obtain ⟨⟨dx, n, e1, e2⟩, ok⟩ := h
  exact ⟨⟨dx, n, s _ _ e1 (fun _ z => nomatch z), s _ _ e2 (fun _ z => nomatch z)⟩, ok⟩
theorem Pen.extN {H H' : Hp} {p c : Addr} {ns : List Int} {i r : Int} (h : Pen H p c ns i r) (s : LamX.ExtN H H') : Pen H' p c ns i r := ⟨s _ _ h.pen (fun _ z => nomatch z), s _ _ h.cells (fun _ z => nomatch z), h.lo, h.few⟩
theorem ButN.of {p : Addr} {H H' : Hp} (b : But p H H') : ButN p H H' := fun a o n h _ => b a o n h
theorem ButN.same {p : Addr} {H H1 H2 : Hp} (b : ButN p H H1) (s : Same H1 H2) : ButN p H H2 := fun x o n e t => s _ _ (b x o n e t)
section
variable {P : Program} {w : World} {K : PySem.W.Frag} {mg : Str → Option Value} {base : Heap} {S B C : Addr}
theorem rd_sa' {te : TE} {i : Nat} {t2 : TS} {D : Ends} {σ : SV} {H : Hp} (h : te σ H fun v H' => t2 D (σ.set i (some v)) H') : tSeq (tAsg te (gName i)) t2 D σ H := h
theorem rd_meth {m : Str} {sp : Sp} {E : XK} {to : TE} {ta : TA} {σ : SV} {H : Hp} {Q : VK} (h : to σ H fun x H1 => ∃ a dx fs, x = .ref a ∧ H1 a = some (.ins C dx fs) ∧ fs.lookup m = none ∧ ta σ H1 fun vs H2 => sp (x :: vs) H2 Q E) : tMeth C m sp [] E to ta σ H Q := by
  unfold tMeth
  simp only [List.append_nil]
  exact h
abbrev lamQ (x : Str) : Str := (x ++ ".<locals>.") ++ "<lambda>"
theorem rd_strS {H : Hp} {Q : VK} {a : Addr} {f t : Int} (h : IsStay H C a f t) (q : Q (.str (stayTxt f t)) H) : rStrO C (spSStr C) E0 [.ref a] H Q := by
  have h' := h
  obtain ⟨⟨dx, n, e1, e2⟩, ok⟩ := h'
  exact ⟨a, dx, _, rfl, e1, a, f, t, rfl, h, _, rfl, q⟩
theorem not_int {H : Hp} {v : V} {Tn : String} (m : Tn ∈ ["NoneType", "bool", "str", "tuple", "list", "dict"]) (h : TyX K H v (.type Tn)) : NotInt K H v := by
  simp only [List.mem_cons, List.not_mem_nil, or_false] at m
  rcases m with rfl | rfl | rfl | rfl | rfl | rfl
  · exact ⟨_, false, false, h, kit_ty (by decide +kernel), kit_ty (by decide +kernel), .inl rfl⟩
  · exact ⟨_, true, true, h, kit_ty (by decide +kernel), kit_ty (by decide +kernel), .inr rfl⟩
  · exact ⟨_, false, false, h, kit_ty (by decide +kernel), kit_ty (by decide +kernel), .inl rfl⟩
  · exact ⟨_, false, false, h, kit_ty (by decide +kernel), kit_ty (by decide +kernel), .inl rfl⟩
  · exact ⟨_, false, false, h, kit_ty (by decide +kernel), kit_ty (by decide +kernel), .inl rfl⟩
  · exact ⟨_, false, false, h, kit_ty (by decide +kernel), kit_ty (by decide +kernel), .inl rfl⟩
theorem rd_sag {te : TE} {g : TG} {t2 : TS} {D : Ends} {σ : SV} {H : Hp} (h : te σ H fun v H1 => g v σ H1 (t2 D)) : tSeq (tAsg te g) t2 D σ H := h
theorem rd_sdrop {te : TE} {t2 : TS} {D : Ends} {σ : SV} {H : Hp} (h : te σ H fun _ H1 => t2 D σ H1) : tSeq (tDrop te) t2 D σ H := h
theorem rd_app {i : Nat} {L : Addr} {xs : List V} {ta : TA} {σ : SV} {H : Hp} {Q : VK} (h0 : σ[i]? = some (some (.ref L))) (hL : H L = some (.lst xs)) (h : ta σ H fun vs H2 => rAppend (.ref L) vs H2 Q) : tBM K "list" rAppend (tVar i) ta σ H Q :=
  ⟨_, h0, .inl ⟨rfl, xs, SqL.of hL⟩, h⟩
/-- a list is written anew: all that is no list stays -/
theorem nl_put {H : Hp} {L : Addr} {xs ys : List V} (h : H L = some (.lst xs)) : ∀ x o, H x = some o → (∀ zs, o ≠ .lst zs) → upd H L (.lst ys) x = some o := fun x o e n => by
  have ne : x ≠ L := fun z => by
    rw [z, h] at e
    exact n xs (Option.some.inj e).symm
  rw [upd_ne ne]
  exact e
theorem IsStay.nl {H H' : Hp} {a : Addr} {f t : Int} (h : IsStay H C a f t) (k : ∀ x o, H x = some o → (∀ zs, o ≠ .lst zs) → H' x = some o) : IsStay H' C a f t := by
  obtain ⟨⟨dx, n, e1, e2⟩, ok⟩ := h
  exact ⟨⟨dx, n, k _ _ e1 (fun _ z => nomatch z), k _ _ e2 (fun _ z => nomatch z)⟩, ok⟩
theorem tabs_put {T : List (Addr × Str)} {H : Hp} {L : Addr} {xs ys : List V} (h : H L = some (.lst xs)) (t : LamX.Tabs T H) : LamX.Tabs T (upd H L (.lst ys)) :=
  tabs_but (fun a o n e => by rw [upd_ne n]; exact e) h t
/-- a def that shows, by its name -/
structure DefG (P : Program) (w : World) (K : PySem.W.Frag) (mg : Str → Option Value) (base : Heap) (x : Str) (k : Nat) (ps : List Str) (sp : Sp) : Prop where
  ex : ∃ (f : Addr) (fd : FuncData), FnG P w K mg base CX0 k f fd ps sp ∧ mg x = some (.ref f) ∧ PySem.W.keepIn K (.ref f) = true ∧ Binds K fd ps []
end
end NB
/-! S16: texts of stays, plainly. -/
namespace NB
open PySem L2 NumText TL
abbrev fig (c : Nat) : Bool := decide (48 ≤ c) && decide (c ≤ 57)
/-- a count that a word writes with so many figures at most -/
def cntB (l : List Nat) (most : Nat) : Bool := !l.isEmpty && (decide (l.length ≤ most) && (l.all fig && (decide (l = [48]) || !decide (l.head? = some 48))))
theorem cntB_is {l : List Nat} {m : Nat} (h : cntB l m = true) : AllDigits l ∧ l ≠ [] ∧ l.length ≤ m ∧ (l = [48] ∨ l.head? ≠ some 48) := by
  unfold cntB at h
  simp only [Bool.and_eq_true, Bool.or_eq_true, Bool.not_eq_true', decide_eq_true_eq, decide_eq_false_iff_not, List.isEmpty_eq_false_iff, List.all_eq_true] at h
  obtain ⟨h1, h2, h3, h4⟩ := h
  refine ⟨fun c hc => ?_, h1, h2, h4⟩
  have := h3 c hc
  simpa using this
theorem val_snoc (l : List Nat) (c : Nat) : digitsVal (l ++ [c]) = digitsVal l * 10 + (c - 48) := by
  unfold digitsVal
  rw [List.foldl_append]
  rfl
theorem val_pos : ∀ {l : List Nat}, AllDigits l → l.head? ≠ some 48 → l ≠ [] → 0 < digitsVal l := by
  intro l
  have key : ∀ (n : Nat) (l : List Nat), l.length = n → AllDigits l → l.head? ≠ some 48 → l ≠ [] → 0 < digitsVal l := by
    intro n
    induction n with
    | zero =>
      intro l hl _ _ ne
      exact absurd (List.length_eq_zero_iff.mp hl) ne
    | succ n ih =>
      intro l hl ha hh ne
      obtain ⟨m, c, rfl⟩ : ∃ m c, l = m ++ [c] := ⟨l.dropLast, l.getLast ne, (List.dropLast_concat_getLast ne).symm⟩
      rw [val_snoc]
      cases m with
      | nil =>
        have hc := ha c (by simp)
        have : c ≠ 48 := fun z => hh (by rw [z]; rfl)
        simp only [List.nil_append] at *
        omega
      | cons d m =>
        have := ih (d :: m) (by simpa using hl) (fun x hx => ha x (List.mem_append_left _ hx)) (by simpa using hh) (by simp)
        omega
  exact key l.length l rfl
/-- what is written in the one way comes back -/
theorem num_val : ∀ {l : List Nat}, AllDigits l → l ≠ [] → (l = [48] ∨ l.head? ≠ some 48) → numL (digitsVal l) = l := by
  have key : ∀ (n : Nat) (l : List Nat), l.length = n → AllDigits l → l ≠ [] → (l = [48] ∨ l.head? ≠ some 48) → numL (digitsVal l) = l := by
    intro n
    induction n with
    | zero =>
      intro l hl _ ne
      exact absurd (List.length_eq_zero_iff.mp hl) ne
    | succ n ih =>
      intro l hl ha ne hh
      obtain ⟨m, c, rfl⟩ : ∃ m c, l = m ++ [c] := ⟨l.dropLast, l.getLast ne, (List.dropLast_concat_getLast ne).symm⟩
      have hc := ha c (by simp)
      rw [val_snoc]
      cases m with
      | nil =>
        have e : digitsVal ([] : List Nat) * 10 + (c - 48) = c - 48 := by
          show 0 * 10 + (c - 48) = c - 48
          omega
        rw [e, numL_lt (by omega)]
        simp only [List.nil_append]
        congr 1
        omega
      | cons d m =>
        have hd : (d :: m).head? ≠ some 48 := by
          rcases hh with hh | hh
          · exfalso
            have := congrArg List.length hh
            simp at this
          · simpa using hh
        have hm : AllDigits (d :: m) := fun x hx => ha x (List.mem_append_left _ hx)
        have p := val_pos hm hd (by simp)
        rw [numL_step (by omega)]
        have e1 : (digitsVal (d :: m) * 10 + (c - 48)) / 10 = digitsVal (d :: m) := by omega
        have e2 : (digitsVal (d :: m) * 10 + (c - 48)) % 10 = c - 48 := by omega
        rw [e1, e2, ih (d :: m) (by simpa using hl) hm (by simp) (.inr hd)]
        congr 2
        omega
  intro l
  exact key l.length l rfl
theorem num_head {n : Nat} : numL n = [48] ∨ (numL n).head? ≠ some 48 := by
  induction n using Nat.strongRecOn with
  | _ n ih =>
    by_cases h : n < 10
    · rw [numL_lt h]
      by_cases z : n = 0
      · left
        rw [z]
      · right
        intro e
        have := Option.some.inj e
        omega
    · right
      rw [numL_step (by omega)]
      rcases ih (n / 10) (by omega) with e | e
      · exfalso
        have v := numL_val (n / 10)
        rw [e] at v
        have : digitsVal [48] = 0 := rfl
        omega
      · intro y
        cases hx : numL (n / 10) with
        | nil => exact numL_ne _ hx
        | cons d m =>
          rw [hx] at y e
          exact e y
theorem cnt_num {n k : Nat} (hk : 0 < k) (h : n < 10 ^ k) : cntB (numL n) k = true := by
  unfold cntB
  simp only [Bool.and_eq_true, Bool.or_eq_true, Bool.not_eq_true', decide_eq_true_eq, decide_eq_false_iff_not, List.isEmpty_eq_false_iff, List.all_eq_true]
  refine ⟨numL_ne n, numL_len hk h, fun c hc => ?_, num_head⟩
  have := numL_digits n c hc
  simpa using this
theorem val_lt {l : List Nat} (h : AllDigits l) : digitsVal l < 10 ^ l.length := by
  have key : ∀ (n : Nat) (l : List Nat), l.length = n → AllDigits l → digitsVal l < 10 ^ n := by
    intro n
    induction n with
    | zero =>
      intro l hl _
      rw [List.length_eq_zero_iff.mp hl]
      decide
    | succ n ih =>
      intro l hl ha
      have ne : l ≠ [] := fun z => by rw [z] at hl; cases hl
      obtain ⟨m, c, rfl⟩ : ∃ m c, l = m ++ [c] := ⟨l.dropLast, l.getLast ne, (List.dropLast_concat_getLast ne).symm⟩
      have hc := ha c (by simp)
      rw [val_snoc, Nat.pow_succ]
      have := ih m (by simpa using hl) (fun x hx => ha x (List.mem_append_left _ hx))
      omega
  exact key l.length l rfl h
end NB
namespace NB
open PySem L2 NumText TL
def bareL (l : List Nat) : List Nat := if l.head? = some 45 then l.tail else l
def dayOf (l : List Nat) : Option Int := if cntB (bareL l) 12 = true then (if l.head? = some 45 then (if 0 < digitsVal (bareL l) then some (-(digitsVal (bareL l) : Int)) else none) else some (digitsVal (bareL l) : Int)) else none
def cntOf (l : List Nat) (m : Nat) : Option Int := if cntB l m = true then some (digitsVal l : Int) else none
/-- ahead of the first plus sign, it, behind it -/
def parL (l : List Nat) : List Nat × List Nat × List Nat := if 43 ∈ l then (l.takeWhile (· ≠ 43), [43], (l.dropWhile (· ≠ 43)).tail) else (l, [], [])
def toldOf (l : List Nat) : Option (Int × Int) := match dayOf (parL l).1, cntOf (parL l).2.2 3 with
  | some f, some n => if (decide (1 ≤ n) && decide (n ≤ 400)) = true then (if dayB (f + n) = true then some (f, f + n) else none) else none
  | _, _ => none
/-- the number that a head writes -/
def intOf (l : List Nat) : Int := if l.head? = some 45 then -(digitsVal l.tail : Int) else (digitsVal l : Int)
def isT (l : List Nat) : Bool := if (!cntB (bareL (parL l).1) 12 || (decide ((parL l).1 = [45, 48]) || (decide ((parL l).2.1 = []) || !cntB (parL l).2.2 3))) = true then false else
  (decide (1 ≤ (digitsVal (parL l).2.2 : Int)) && decide ((digitsVal (parL l).2.2 : Int) ≤ 400)) && decide (intOf (parL l).1 + (digitsVal (parL l).2.2 : Int) < 1000000000000)
def intL (f : Int) : List Nat := if f < 0 then 45 :: numL f.natAbs else numL f.natAbs
structure StayOkP (f t : Int) : Prop where
  d1 : dayB f = true
  d2 : dayB t = true
  lt : f < t
  le : t ≤ f + 400
theorem cnt_nil (m : Nat) : cntB [] m = false := rfl
theorem zero_of {l : List Nat} {m : Nat} (h : cntB l m = true) (z : digitsVal l = 0) : l = [48] := by
  obtain ⟨h1, h2, h3, h4⟩ := cntB_is h
  rcases h4 with h4 | h4
  · exact h4
  · have := val_pos h1 h4 h2
    omega
theorem day_bound {l : List Nat} (h : cntB (bareL l) 12 = true) : (intOf l).natAbs < 10 ^ 12 ∧ dayB (intOf l) = true := by
  obtain ⟨h1, h2, h3, h4⟩ := cntB_is h
  have v := val_lt h1
  have v2 : digitsVal (bareL l) < 10 ^ 12 := Nat.lt_of_lt_of_le v (Nat.pow_le_pow_right (by decide) h3)
  have e : (intOf l).natAbs = digitsVal (bareL l) := by
    unfold intOf bareL
    split <;> omega
  have b : (intOf l).natAbs < 10 ^ 12 := by rw [e]; exact v2
  refine ⟨b, ?_⟩
  simp only [dayB, MD, Bool.and_eq_true, decide_eq_true_eq]
  have : (10 : Nat) ^ 12 = 1000000000000 := by decide
  omega
theorem day_some {l : List Nat} (h : cntB (bareL l) 12 = true) (n : l ≠ [45, 48]) : dayOf l = some (intOf l) := by
  unfold dayOf
  rw [if_pos h]
  by_cases c : l.head? = some 45
  · rw [if_pos c]
    have e : bareL l = l.tail := by unfold bareL; rw [if_pos c]
    have p : 0 < digitsVal (bareL l) := by
      refine Nat.pos_of_ne_zero fun z => ?_
      have y := zero_of h z
      rw [e] at y
      cases l with
      | nil => cases c
      | cons a r =>
        have : a = 45 := Option.some.inj c
        subst this
        exact n (by rw [show r = [48] from y])
    rw [if_pos p, e]
    unfold intOf
    rw [if_pos c]
  · rw [if_neg c]
    unfold intOf bareL
    rw [if_neg c, if_neg c]
theorem isT_told (l : List Nat) : isT l = (toldOf l).isSome := by
  unfold isT toldOf
  by_cases h1 : cntB (bareL (parL l).1) 12 = true
  · by_cases h2 : (parL l).1 = [45, 48]
    · have d : dayOf (parL l).1 = none := by
        rw [h2]
        rfl
      rw [d, h1, h2]
      rfl
    · rw [day_some h1 h2, h1, decide_eq_false h2]
      by_cases h4 : cntB (parL l).2.2 3 = true
      · have h3 : (parL l).2.1 ≠ [] := by
          intro z
          unfold parL at z h4
          split at z
          · cases z
          · rename_i c
            rw [if_neg c] at h4
            cases h4
        have e : cntOf (parL l).2.2 3 = some (digitsVal (parL l).2.2 : Int) := by unfold cntOf; rw [if_pos h4]
        rw [e, h4, decide_eq_false h3]
        dsimp only
        rw [if_neg (by decide)]
        by_cases h5 : (decide (1 ≤ (digitsVal (parL l).2.2 : Int)) && decide ((digitsVal (parL l).2.2 : Int) ≤ 400)) = true
        · rw [if_pos h5, h5, Bool.true_and]
          simp only [Bool.and_eq_true, decide_eq_true_eq] at h5
          have b := (day_bound h1).2
          simp only [dayB, MD, Bool.and_eq_true, decide_eq_true_eq] at b
          by_cases h6 : dayB (intOf (parL l).1 + (digitsVal (parL l).2.2 : Int)) = true
          · rw [if_pos h6]
            simp only [dayB, MD, Bool.and_eq_true, decide_eq_true_eq] at h6
            exact decide_eq_true (by omega)
          · rw [if_neg h6]
            refine decide_eq_false fun z => h6 ?_
            simp only [dayB, MD, Bool.and_eq_true, decide_eq_true_eq]
            omega
        · rw [if_neg h5, Bool.eq_false_iff.mpr h5]
          rfl
      · have e : cntOf (parL l).2.2 3 = none := by unfold cntOf; rw [if_neg h4]
        rw [e, Bool.eq_false_iff.mpr h4]
        simp
  · have d : dayOf (parL l).1 = none := by unfold dayOf; rw [if_neg h1]
    rw [d, Bool.eq_false_iff.mpr h1]
    rfl
theorem take_par {l : List Nat} (h : 43 ∈ l) : l.takeWhile (· ≠ 43) ++ 43 :: (l.dropWhile (· ≠ 43)).tail = l := by
  induction l with
  | nil => cases h
  | cons a r ih =>
    by_cases c : a = 43
    · subst c
      rfl
    · rw [List.takeWhile_cons_of_pos (by simpa using c), List.dropWhile_cons_of_pos (by simpa using c), List.cons_append, ih]
      rcases List.mem_cons.mp h with e | e
      · exact absurd e.symm c
      · exact e
theorem day_txt {l : List Nat} {f : Int} (h : dayOf l = some f) : intL f = l ∧ dayB f = true := by
  unfold dayOf at h
  split at h
  · rename_i h1
    have bd := day_bound h1
    obtain ⟨q1, q2, q3, q4⟩ := cntB_is h1
    have nv := num_val q1 q2 q4
    split at h
    · rename_i c
      split at h
      · rename_i p
        cases h
        have e : bareL l = l.tail := by unfold bareL; rw [if_pos c]
        have ei : intOf l = -(digitsVal (bareL l) : Int) := by unfold intOf; rw [if_pos c, e]
        rw [ei] at bd
        refine ⟨?_, bd.2⟩
        unfold intL
        rw [if_pos (by omega)]
        have ea : (-(digitsVal (bareL l) : Int)).natAbs = digitsVal (bareL l) := by omega
        rw [ea, nv, e]
        cases l with
        | nil => cases c
        | cons a r =>
          have : a = 45 := Option.some.inj c
          subst this
          rfl
      · cases h
    · rename_i c
      cases h
      have e : bareL l = l := by unfold bareL; rw [if_neg c]
      have ei : intOf l = (digitsVal (bareL l) : Int) := by unfold intOf; rw [if_neg c, e]
      rw [ei] at bd
      refine ⟨?_, bd.2⟩
      unfold intL
      rw [if_neg (by omega)]
      have ea : ((digitsVal (bareL l) : Int)).natAbs = digitsVal (bareL l) := by omega
      rw [ea, nv, e]
  · cases h
theorem told_txt {l : List Nat} {f u : Int} (h : toldOf l = some (f, u)) : StayOkP f u ∧ intL f ++ 43 :: intL (u - f) = l := by
  unfold toldOf at h
  split at h
  · rename_i f' n e1 e2
    split at h
    · rename_i h5
      split at h
      · rename_i h6
        cases h
        simp only [Bool.and_eq_true, decide_eq_true_eq] at h5
        obtain ⟨t1, t2⟩ := day_txt e1
        unfold cntOf at e2
        split at e2
        · rename_i h4
          cases e2
          obtain ⟨q1, q2, q3, q4⟩ := cntB_is h4
          refine ⟨⟨t2, h6, by omega, by omega⟩, ?_⟩
          have eu : f + (digitsVal (parL l).2.2 : Int) - f = (digitsVal (parL l).2.2 : Int) := by omega
          rw [eu, t1]
          have en : intL (digitsVal (parL l).2.2 : Int) = (parL l).2.2 := by
            unfold intL
            rw [if_neg (by omega)]
            have ea : ((digitsVal (parL l).2.2 : Int)).natAbs = digitsVal (parL l).2.2 := by omega
            rw [ea, num_val q1 q2 q4]
          rw [en]
          by_cases c : 43 ∈ l
          · have e0 : parL l = (l.takeWhile (· ≠ 43), [43], (l.dropWhile (· ≠ 43)).tail) := by unfold parL; rw [if_pos c]
            rw [e0]
            exact take_par c
          · have e0 : parL l = (l, [], []) := by unfold parL; rw [if_neg c]
            rw [e0] at h4
            cases h4
        · cases e2
      · cases h
    · cases h
  · cases h
theorem intL_free {f : Int} : 43 ∉ intL f := by
  unfold intL
  split
  · intro h
    rcases List.mem_cons.mp h with e | e
    · cases e
    · exact numL_free (.inl (by decide)) e
  · exact numL_free (.inl (by decide))
theorem par_of {f : Int} {r : List Nat} : parL (intL f ++ 43 :: r) = (intL f, [43], r) := by
  unfold parL
  rw [if_pos (by simp)]
  have e1 : ∀ (a : List Nat), 43 ∉ a → (a ++ 43 :: r).takeWhile (· ≠ 43) = a ∧ (a ++ 43 :: r).dropWhile (· ≠ 43) = 43 :: r := by
    intro a
    induction a with
    | nil => intro _; exact ⟨rfl, rfl⟩
    | cons b a ih =>
      intro h
      have hb : b ≠ 43 := fun z => h (by rw [z]; exact List.mem_cons_self ..)
      obtain ⟨i1, i2⟩ := ih fun z => h (List.mem_cons_of_mem _ z)
      refine ⟨?_, ?_⟩
      · rw [List.cons_append, List.takeWhile_cons_of_pos (by simpa using hb), i1]
      · rw [List.cons_append, List.dropWhile_cons_of_pos (by simpa using hb), i2]
  obtain ⟨a1, a2⟩ := e1 _ (intL_free (f := f))
  rw [a1, a2]
  rfl
theorem bare_intL (f : Int) : bareL (intL f) = numL f.natAbs ∧ ((intL f).head? = some 45 ↔ f < 0) := by
  unfold intL
  split
  · rename_i h
    exact ⟨rfl, fun _ => h, fun _ => rfl⟩
  · rename_i h
    have ne : (numL f.natAbs).head? ≠ some 45 := by
      intro e
      have : 45 ∈ numL f.natAbs := List.mem_of_mem_head? e
      exact numL_free (.inl (by decide)) this
    refine ⟨?_, fun e => absurd e ne, fun e => absurd e h⟩
    unfold bareL
    rw [if_neg ne]
theorem day_of {f : Int} (h : dayB f = true) : dayOf (intL f) = some f := by
  simp only [dayB, MD, Bool.and_eq_true, decide_eq_true_eq] at h
  obtain ⟨b1, b2⟩ := bare_intL f
  have c : cntB (bareL (intL f)) 12 = true := by
    rw [b1]
    refine cnt_num (by decide) ?_
    have : (10 : Nat) ^ 12 = 1000000000000 := by decide
    omega
  unfold dayOf
  rw [if_pos c, b1, numL_val]
  by_cases z : f < 0
  · rw [if_pos (b2.mpr z), if_pos (by omega)]
    congr 1
    omega
  · rw [if_neg (fun e => z (b2.mp e))]
    congr 1
    omega
theorem told_of {f n : Int} (h1 : dayB f = true) (h2 : dayB (f + n) = true) (h3 : 1 ≤ n) (h4 : n ≤ 400) : toldOf (intL f ++ 43 :: intL n) = some (f, f + n) := by
  unfold toldOf
  rw [par_of]
  have e2 : cntOf (intL n) 3 = some n := by
    have e : intL n = numL n.natAbs := by unfold intL; rw [if_neg (by omega)]
    unfold cntOf
    rw [e, cnt_num (by decide) (by have : (10 : Nat) ^ 3 = 1000 := by decide
                                   omega), if_pos rfl, numL_val]
    congr 1
    omega
  simp only [day_of h1, e2, decide_eq_true h3, decide_eq_true h4, h2]
  rfl
end NB
namespace NB
open PySem L2 NumText TL
theorem take_next {α : Type} {xs : List α} {i : Nat} {x : α} (h : xs[i]? = some x) : xs.take (i + 1) = xs.take i ++ [x] := by
  rw [List.take_add_one, h]
  rfl
section
variable {D : Addr} {z : Str} {te : TE} {tt : TT} {vs : List Nat} {σ : SV} {H1 : Hp} {Qd : Hp → Prop} {j : Nat}
/-- [e for sign in z if t] -/
theorem lc_filS (p : Nat → Bool) (F : Nat → V) (hD : H1 D = none) (hn : z.length < sizeLine) (hw : ∀ x, wipe ((wipe σ vs).set j (some x)) vs = wipe σ vs)
    (htt : ∀ c ∈ tl z, ∀ (H' : Hp) (Q : Bool → Hp → Prop), Same H1 H' → Q (p c) H' → tt ((wipe σ vs).set j (some (.str ⟨#[c]⟩))) H' Q)
    (hel : ∀ c ∈ tl z, ∀ (H' : Hp) (Q : VK), Same H1 H' → Q (F c) H' → te ((wipe σ vs).set j (some (.str ⟨#[c]⟩))) H' Q) (hd : Qd (upd H1 D (.lst (((tl z).filter p).map F)))) :
    ∃ W : Nat → Nat → Hp → Prop, (∃ m, W 0 m (upd H1 D (.lst []))) ∧ ∀ i m H, W i m H →
      ((Its z).stop i H ∧ Qd H) ∨ ((Its z).go i H ∧ ∃ Nx : Hp → Prop, (∀ H', Nx H' → ∃ m', m' < m ∧ W (i + 1) m' H') ∧ ∀ x H', (Its z).yld i H x H' → gName j x (wipe σ vs) H' fun σ2 H2 => wipe σ2 vs = wipe σ vs ∧ tt σ2 H2 fun b H3 =>
        if b = true then te σ2 H3 fun y H4 => ∃ acc, H4 D = some (.lst acc) ∧ acc.length < sizeLine ∧ Nx (upd H4 D (.lst (acc ++ [y]))) else Nx H3) := by
  have lz : (tl z).length = z.cps.size := by simp [tl]
  refine ⟨fun i m H => m = z.cps.size - i ∧ i ≤ z.cps.size ∧ H = upd H1 D (.lst ((((tl z).take i).filter p).map F)), ⟨_, rfl, Nat.zero_le _, rfl⟩, ?_⟩
  rintro i m H ⟨rfl, hi, rfl⟩
  by_cases hlt : i < z.cps.size
  · refine .inr ⟨hlt, fun H' => H' = upd H1 D (.lst ((((tl z).take (i + 1)).filter p).map F)), fun H' e => ⟨_, by omega, rfl, hlt, e⟩, ?_⟩
    rintro x H' ⟨rfl, c, hc, rfl⟩
    have hx : (tl z)[i]? = some c := by
      unfold tl
      rw [Array.getElem?_toList]
      exact hc
    have mem := List.mem_of_getElem? hx
    have sD := same_new (o := .lst ((((tl z).take i).filter p).map F)) (Same.refl H1) hD
    refine ⟨hw _, htt c mem _ _ sD ?_⟩
    refine ite2 (fun b => hel c mem _ _ sD ⟨_, upd_same, ?_, ?_⟩) (fun b => ?_)
    · rw [List.length_map]
      have := List.length_filter_le p ((tl z).take i)
      rw [List.length_take] at this
      have e : z.length = z.cps.size := rfl
      omega
    · rw [upd_upd, take_next hx, List.filter_append, List.map_append, List.filter_cons_of_pos (p := p) (a := c) (l := []) b]
      rfl
    · rw [take_next hx, List.filter_append, List.filter_cons_of_neg (p := p) (a := c) (l := []) b, List.filter_nil, List.append_nil]
  · refine .inl ⟨Nat.le_of_not_lt hlt, ?_⟩
    have e : i = (tl z).length := by omega
    rw [e, List.take_length]
    exact hd
end
/-- an integer, or none -/
def optV : Option Int → V
  | none => .non
  | some n => .int n
abbrev FIG : Str := "0123456789"
theorem fig_mem (c : Nat) : decide (c ∈ FIG.cps.toList) = fig c := by
  have e : FIG.cps.toList = [48, 49, 50, 51, 52, 53, 54, 55, 56, 57] := by decide +kernel
  rw [e, Bool.eq_iff_iff]
  simp only [Bool.and_eq_true, decide_eq_true_eq, List.mem_cons, List.not_mem_nil, or_false]
  omega
theorem str_lit {z y : Str} {l : List Nat} (h : tl y = l) : decide (V.str z = V.str y) = decide (tl z = l) := by
  by_cases c : tl z = l
  · rw [decide_eq_true c]
    have : z = y := ext_tl (c.trans h.symm)
    rw [this]
    exact decide_eq_true rfl
  · rw [decide_eq_false c]
    exact decide_eq_false fun e => c (by rw [V.str.inj e]; exact h)
section
variable {P : Program} {w : World} {K : PySem.W.Frag} {mg : Str → Option Value} {base : Heap}
abbrev sCnt : Stmt := top 7
abbrev nCnt : List Str := ["word", "most", "sign"]
theorem scCnt : FnScope nCnt ["word", "most"] (defScope sCnt) := ⟨rfl, rfl, rfl, by decide +kernel, rfl, by decide +kernel, by decide +kernel⟩
def spCnt : Sp := fun vs H Q _ => ∃ (z : Str) (m : Nat), vs = [.str z, .int m] ∧ z.length ≤ 600 ∧ ∀ H', Same H H' → Q (optV (cntOf (tl z) m)) H'
theorem ok_cnt {f : Addr} {fd : FuncData} {t : Tok} (F : Fun K "count_in" "count_in" sCnt f fd) (T : Bi mg) (mA : mg "all" = none) (mF : mg "FIGURES" = some (.str FIG t)) : FnOk P w K mg base CX0 1 f fd ["word", "most"] spCnt := by
  refine F.ok scCnt (fun vs H Q E h => ?_) (fun cdv A outer s H vs Q E hr h => ?_)
  · obtain ⟨z, m, rfl, _⟩ := h
    rfl
  · obtain ⟨z, m, rfl, hz, k⟩ := h
    refine ⟨_, pss_cons (ps_if (PW.pt (pw_or (pt_cmpR op_eq (pv 0) pe_str (nomark _)) (pw_or (pt_cmpR op_gt (pe_callB call_len_str (by rfl) T.len PySem.boot_len (pa_cons (pv 0) pa_nil)) (pv 1) (nomark _))
        (pw_or1 (pt_not (pt_val (pe_callB (cr_all rfl) (by rfl) mA (by decide +kernel) (pa_cons (pe_lc (own := [("sign", 2)]) (g := gName 2) (tt := tYes) (te := tOp (fun x y H Q => ∃ (c : Nat) (z : Str), x = .str ⟨#[c]⟩ ∧ y = .str z ∧ Q (.bl (decide (c ∈ z.cps.toList))) H) (tVar 2) (tC (.str FIG))) (by rfl) scCnt.nd (pi_str (pv 0)) (blkOk_by (own := [("sign", 2)]) (N := nCnt) (sc := defScope sCnt) (by decide +kernel))
            (fun _ _ _ _ _ => pg_name (i := 2) scCnt.nd rfl (.inl rfl)) (fun _ _ _ _ _ => pts_nil) (fun _ _ _ _ _ => pe_cmpR op_in_sign (pv 2) (pe_glob (v := .str FIG) (by rfl) mF ⟨_, rfl⟩) rfl)) pa_nil))))))))
        (pss_one (ps_ret pe_non)) pss_nil)
      (pss_one (ps_ret (pe_ifExp (PW.pt (pw_or (pt_cmpR op_eq (pv 0) pe_str (nomark _)) (pw_or1 (pt_cmpR op_ne (pe_item_str (pv 0) pe_int (fun _ _ => rfl)) pe_str (nomark _))))) (pe_callTy call_int_str (by rfl) T.int (by decide +kernel) (pa_cons (pv 0) pa_nil)) pe_non))), ?_⟩
    have hz' : z.length < sizeLine := by rw [sizeLine_eq]; omega
    have no : cntB (tl z) m = false → ∀ H', Same H H' → Q .non H' := fun e H' s' => by
      have q := k H' s'
      unfold cntOf at q
      rw [if_neg (by rw [e]; exact Bool.false_ne_true)] at q
      exact q
    refine rd_sif0 (rd_or (rd_test (rd_op (rd_var rfl (rd_c ⟨rfl, _, rfl, ?_⟩)))))
    rw [str_lit (l := []) (by decide +kernel)]
    refine ite2 (fun c => iteT (rd_ret (rd_c (no ?_ _ (Same.refl _))))) (fun c1 => ?_)
    · rw [of_decide_eq_true c]
      rfl
    have c1 : tl z ≠ [] := fun e => c1 (decide_eq_true e)
    refine rd_or (rd_test (rd_op (rd_cb (rd_cons (rd_var rfl (rd_nil ⟨z, rfl, Nat.le_of_lt hz', rd_var rfl ⟨_, _, rfl, rfl, _, rfl, ?_⟩⟩))))))
    refine ite2 (fun c => iteT (rd_ret (rd_c (no ?_ _ (Same.refl _))))) (fun c2 => ?_)
    · have c := of_decide_eq_true c
      unfold cntB
      have e : decide ((tl z).length ≤ m) = false := decide_eq_false (by rw [← len_tl]; omega)
      rw [e, Bool.false_and, Bool.and_false]
    have c2 : (tl z).length ≤ m := by
      have : ¬ ((z.length : Int) > (m : Int)) := fun e => c2 (decide_eq_true e)
      rw [← len_tl]
      omega
    refine rd_not (rd_b (rd_cb (rd_cons ⟨_, rfl, z, rfl, fun D1 hD1 => lc_filS (fun _ => true) (fun c => .bl (fig c)) hD1 hz' (fun _ => rfl) (fun c _ H' Q _ q => q) (fun c _ H' Q _ q => rd_op (rd_var rfl (rd_c ⟨c, FIG, rfl, rfl, by rw [fig_mem]; exact q⟩))) ?_⟩)))
    have ef : (tl z).filter (fun _ => true) = tl z := List.filter_eq_self.mpr (fun _ _ => rfl)
    rw [ef]
    have sD := same_new (o := .lst ((tl z).map fun c => .bl (fig c))) (Same.refl H) hD1
    have eb : (tl z).map (fun c => V.bl (fig c)) = ((tl z).map fig).map V.bl := by rw [List.map_map]; rfl
    refine rd_nil ⟨D1, (tl z).map fig, rfl, SqL.of (by rw [upd_same, eb]), _, rfl, ?_⟩
    have ea : ((tl z).map fig).all id = (tl z).all fig := by rw [List.all_map]; rfl
    rw [ea]
    generalize upd H D1 (.lst ((tl z).map fun c => .bl (fig c))) = H1 at sD
    cases c3 : (tl z).all fig with
    | false =>
      refine iteT (rd_ret (rd_c (no ?_ _ sD)))
      unfold cntB
      rw [c3, Bool.false_and, Bool.and_false, Bool.and_false]
    | true =>
      have ad : AllDigits (tl z) := fun c hc => by
        have := List.all_eq_true.mp c3 c hc
        simpa using this
      have num : (tl z = [48] ∨ (tl z).head? ≠ some 48) → tCB (fun xs H Q => ∃ a n, xs = [.str a] ∧ PySem.intText? a = some n ∧ a.length ≤ 640 ∧ Q (.int n) H) (tCons (tVar 0) tNil) [some (.str z), some (.int m), none] H1 Q := fun c4 => by
        refine rd_cb (rd_cons (rd_var rfl (rd_nil ⟨z, _, rfl, intText_digits ad c1 (by omega), by omega, ?_⟩)))
        have q := k H1 sD
        have e : cntB (tl z) m = true := by
          unfold cntB
          simp only [Bool.and_eq_true, Bool.or_eq_true, Bool.not_eq_true', decide_eq_true_eq, decide_eq_false_iff_not, List.isEmpty_eq_false_iff]
          exact ⟨c1, c2, c3, c4⟩
        unfold cntOf at q
        rw [if_pos e] at q
        exact q
      refine iteF (rd_ret (rd_ifE (rd_or (rd_test (rd_op (rd_var rfl (rd_c ⟨rfl, _, rfl, ?_⟩)))))))
      rw [str_lit (l := [48]) (by decide +kernel)]
      refine ite2 (fun c => iteT (num (.inl (of_decide_eq_true c)))) (fun c4 => ?_)
      have c4 : tl z ≠ [48] := fun e => c4 (decide_eq_true e)
      obtain ⟨c0, r0, er⟩ : ∃ c0 r0, tl z = c0 :: r0 := by
        cases e : tl z with
        | nil => exact absurd e c1
        | cons c0 r0 => exact ⟨c0, r0, rfl⟩
      have g0 : z.cps[(0 : Int).toNat]? = some c0 := by
        have : (tl z)[0]? = some c0 := by rw [er]; rfl
        unfold tl at this
        rw [Array.getElem?_toList] at this
        exact this
      have lz : (0 : Int) < z.length := by
        rw [len_tl, er]
        exact Int.ofNat_lt.mpr (Nat.succ_pos _)
      refine rd_test (rd_op (rd_op (rd_var rfl (rd_c ⟨z, 0, c0, rfl, rfl, by decide, by decide, lz, g0, rd_c ⟨rfl, _, rfl, ?_⟩⟩))))
      rw [str_lit (z := ⟨#[c0]⟩) (l := [48]) (by decide +kernel)]
      show (if (!decide ([c0] = [48])) = true then _ else _)
      by_cases c5 : c0 = 48
      · rw [decide_eq_true (by rw [c5])]
        refine iteF (rd_c (no ?_ _ sD))
        unfold cntB
        have e : (decide (tl z = [48]) || !decide ((tl z).head? = some 48)) = false := by
          rw [decide_eq_false c4, er, c5]
          rfl
        rw [e, Bool.and_false, Bool.and_false, Bool.and_false]
      · rw [decide_eq_false (fun e => c5 (List.head_eq_of_cons_eq e))]
        exact iteT (num (.inr (by rw [er]; exact fun e => c5 (Option.some.inj e))))
end
end NB
namespace NB
open PySem L2 NumText TL
theorem cut_pre {z : Str} (k : Nat) : tl (cutS z none (some (k : Int))) = (tl z).take k := by
  unfold cutS
  rw [tl_mk, HT.sIx_none, HT.sIx_nat, List.drop_zero, Nat.sub_zero, len_tl]
  show ((tl z).take (min k (tl z).length)) = (tl z).take k
  rw [List.take_eq_take_iff]
  omega
theorem cut_suf {z : Str} (k : Nat) : tl (cutS z (some (k : Int)) none) = (tl z).drop k := by
  unfold cutS
  rw [tl_mk, HT.sIx_none, HT.sIx_nat, len_tl]
  show ((tl z).drop (min k (tl z).length)).take ((tl z).length - min k (tl z).length) = (tl z).drop k
  have e : (tl z).drop (min k (tl z).length) = (tl z).drop k := by
    by_cases h : k ≤ (tl z).length
    · rw [Nat.min_eq_left h]
    · rw [Nat.min_eq_right (by omega), List.drop_length, List.drop_eq_nil_of_le (by omega)]
  rw [e]
  refine List.take_of_length_le ?_
  rw [List.length_drop]
  omega
section
variable {σ : SV} {H : Hp} {Q : VK} {i : Nat} {z : Str}
theorem rd_pre {k : Nat} (h0 : σ[i]? = some (some (.str z))) (hz : z.length ≤ 600) (q : ∀ y, tl y = (tl z).take k → Q (.str y) H) : tSl rSlS (tVar i) tNoPart (tPart (tC (.int (k : Int)))) σ H Q :=
  ⟨_, h0, _, rfl, z, rfl, by rw [sizeLine_eq]; omega, q _ (cut_pre k)⟩
theorem rd_suf {k : Nat} (h0 : σ[i]? = some (some (.str z))) (hz : z.length ≤ 600) (q : ∀ y, tl y = (tl z).drop k → Q (.str y) H) : tSl rSlS (tVar i) (tPart (tC (.int (k : Int)))) tNoPart σ H Q :=
  ⟨_, h0, _, rfl, z, rfl, by rw [sizeLine_eq]; omega, q _ (cut_suf k)⟩
theorem take1 {l : List Nat} {c : Nat} : decide (l.take 1 = [c]) = decide (l.head? = some c) := by
  cases l with
  | nil => rw [decide_eq_false (fun z => nomatch z), decide_eq_false (fun z => nomatch z)]
  | cons a r =>
    show decide ([a] = [c]) = decide (some a = some c)
    by_cases h : a = c
    · rw [h, decide_eq_true rfl, decide_eq_true rfl]
    · rw [decide_eq_false (fun z => h (List.head_eq_of_cons_eq z)), decide_eq_false (fun z => h (Option.some.inj z))]
theorem rd_bare (h0 : σ[i]? = some (some (.str z))) (hz : z.length ≤ 600) (q : ∀ y, tl y = bareL (tl z) → Q (.str y) H) :
    tIf (tTest (tOp rEq (tSl rSlS (tVar i) tNoPart (tPart (tC (.int 1)))) (tC (.str "-")))) (tSl rSlS (tVar i) (tPart (tC (.int 1))) tNoPart) (tVar i) σ H Q := by
  refine rd_ifE (rd_test (rd_op (rd_pre (k := 1) h0 hz fun y hy => rd_c ⟨rfl, _, rfl, ?_⟩)))
  rw [str_lit (l := [45]) (by decide +kernel), hy, take1]
  refine ite2 (fun c => rd_suf (k := 1) h0 hz fun y2 hy2 => q y2 ?_) (fun c => rd_var h0 (q z ?_))
  · rw [hy2]
    unfold bareL
    rw [if_pos (of_decide_eq_true c), List.drop_one]
  · unfold bareL
    rw [if_neg (fun e => c (decide_eq_true e))]
end
theorem no_plus : ∀ l : List Nat, 43 ∉ l.takeWhile (· ≠ 43)
  | [] => by simp
  | a :: r => by
    by_cases h : a = 43
    · subst h
      rw [List.takeWhile_cons_of_neg (by simp)]
      simp
    · rw [List.takeWhile_cons_of_pos (by simpa using h)]
      intro y
      rcases List.mem_cons.mp y with e | e
      · exact h e.symm
      · exact no_plus r e
/-- the parts of a text -/
theorem par_txt (z : Str) : tl (Txt.partition z "+").1 = (parL (tl z)).1 ∧ tl (Txt.partition z "+").2.1 = (parL (tl z)).2.1 ∧ tl (Txt.partition z "+").2.2 = (parL (tl z)).2.2 := by
  have ep : tl (Str.ofString "+") = [43] := by decide +kernel
  by_cases h : 43 ∈ tl z
  · have e0 : parL (tl z) = ((tl z).takeWhile (· ≠ 43), [43], ((tl z).dropWhile (· ≠ 43)).tail) := by unfold parL; rw [if_pos h]
    have hz : z = (⟨((tl z).takeWhile (· ≠ 43)).toArray⟩ : Str) ++ Str.ofString "+" ++ (⟨(((tl z).dropWhile (· ≠ 43)).tail).toArray⟩ : Str) := by
      refine ext_tl ?_
      rw [tl_append, tl_append, tl_mk, tl_mk, ep, List.append_assoc]
      exact (take_par h).symm
    have e1 := partition_app (y := Str.ofString "+") (s := 43) (S := []) ep (a := ⟨((tl z).takeWhile (· ≠ 43)).toArray⟩) (b := ⟨(((tl z).dropWhile (· ≠ 43)).tail).toArray⟩) (by
      rw [tl_mk]
      exact no_plus _)
    rw [← hz] at e1
    rw [e0, e1]
    exact ⟨rfl, ep, rfl⟩
  · have e0 : parL (tl z) = (tl z, [], []) := by unfold parL; rw [if_neg h]
    have e1 := TL.partition_none (y := Str.ofString "+") (s := 43) (S := []) ep h
    rw [e0, e1]
    exact ⟨rfl, rfl, rfl⟩
theorem par_len (l : List Nat) : (parL l).1.length ≤ l.length ∧ (parL l).2.2.length ≤ l.length := by
  unfold parL
  split
  · rename_i h
    have := congrArg List.length (take_par h)
    rw [List.length_append, List.length_cons] at this
    dsimp only
    omega
  · exact ⟨Nat.le_refl _, Nat.zero_le _⟩
theorem dec_opt (n : Option Int) : decide (optV n = .non) = n.isNone := by
  cases n
  · exact decide_eq_true rfl
  · exact decide_eq_false (fun z => nomatch z)
section
variable {P : Program} {w : World} {K : PySem.W.Frag} {mg : Str → Option Value} {base : Heap}
abbrev sDin : Stmt := top 8
theorem scDin : FnScope ["word", "found"] ["word"] (defScope sDin) := ⟨rfl, rfl, rfl, by decide +kernel, rfl, by decide +kernel, by decide +kernel⟩
def spDin : Sp := fun vs H Q _ => ∃ (z : Str), vs = [.str z] ∧ z.length ≤ 600 ∧ ∀ H', Same H H' → Q (optV (dayOf (tl z))) H'
theorem ok_din {f : Addr} {fd : FuncData} (F : Fun K "day_in" "day_in" sDin f fd) (Dc : DefOf P w K mg base "count_in" 1 ["word", "most"] spCnt) : FnOk P w K mg base CX0 2 f fd ["word"] spDin := by
  obtain ⟨fC, fdC, FC, mC, kC, bC⟩ := Dc.ex
  refine F.ok scDin (fun vs H Q E h => ?_) (fun cdv A outer s H vs Q E hr h => ?_)
  · obtain ⟨z, rfl, _⟩ := h
    rfl
  · obtain ⟨z, rfl, hz, k⟩ := h
    refine ⟨_, pss_cons (ps_set (i := 1) scDin.nd rfl (.inl rfl) (pe_call FC hr rfl mC kC bC .nil pass0 (pa_cons (pe_ifExp (pt_cmpR op_eq (pe_slice sl_str (pv 0) po_none (po_some pe_int)) pe_str (nomark _)) (pe_slice sl_str (pv 0) (po_some pe_int) po_none) (pv 0)) (pa_cons pe_int pa_nil))))
      (pss_cons (ps_if (PW.pt (pw_or (pt_cmp (pc_isN (pv 1))) (pw_or1 (pt_cmpR op_ne (pe_slice sl_str (pv 0) po_none (po_some pe_int)) pe_str (nomark _))))) (pss_one (ps_ret (pv 1))) pss_nil)
      (pss_one (ps_ret (pe_ifExp (pt_cmpR op_gt (pv 1) pe_int (nomark _)) (pe_un un_neg (pv 1)) pe_non)))), ?_⟩
    refine rd_sa (rd_call (rd_cons (rd_bare rfl hz fun y hy => rd_cons (rd_c (rd_nil ⟨y, 12, rfl, ?_, fun H1 s1 => ?_⟩)))))
    · rw [len_tl, hy]
      rw [len_tl] at hz
      unfold bareL
      split
      · rw [List.length_tail]
        omega
      · exact hz
    rw [hy]
    have q := k H1 s1
    unfold dayOf at q
    have ec : cntOf (bareL (tl z)) 12 = if cntB (bareL (tl z)) 12 = true then some (digitsVal (bareL (tl z)) : Int) else none := rfl
    by_cases c1 : cntB (bareL (tl z)) 12 = true
    · rw [ec, if_pos c1]
      rw [if_pos c1] at q
      refine rd_sif0 (rd_or (rd_b (rd_var rfl ⟨_, rfl, iteF (rd_test (rd_op (rd_pre (k := 1) rfl hz fun y2 hy2 => rd_c ⟨rfl, _, rfl, ?_⟩)))⟩)))
      rw [str_lit (l := [45]) (by decide +kernel), hy2, take1]
      by_cases c2 : (tl z).head? = some 45
      · rw [decide_eq_true c2]
        rw [if_pos c2] at q
        refine iteF (rd_ret (rd_ifE (rd_test (rd_op (rd_var rfl (rd_c ⟨_, _, rfl, rfl, _, rfl, ite2 (fun c3 => ?_) (fun c3 => ?_)⟩))))))
        · have c3 := of_decide_eq_true c3
          rw [if_pos (by omega)] at q
          exact ⟨_, rfl, _, rfl, q⟩
        · have c3 : ¬ ((digitsVal (bareL (tl z)) : Int) > 0) := fun e => c3 (decide_eq_true e)
          rw [if_neg (by omega)] at q
          exact rd_c q
      · rw [decide_eq_false c2]
        rw [if_neg c2] at q
        exact iteT (rd_ret (rd_var rfl q))
    · rw [ec, if_neg c1]
      rw [if_neg c1] at q
      exact rd_sif0 (rd_or (rd_b (rd_var rfl ⟨_, rfl, iteT (iteT (rd_ret (rd_var rfl q)))⟩)))
abbrev sTold : Stmt := top 17
theorem scTold : FnScope ["text", "head", "sign", "tail", "first", "nights"] ["text"] (defScope sTold) := ⟨rfl, rfl, rfl, by decide +kernel, rfl, by decide +kernel, by decide +kernel⟩
def spTold : Sp := fun vs H Q _ => ∃ (z : Str), vs = [.str z] ∧ z.length ≤ 600 ∧ (toldOf (tl z) = none → ∀ H', Same H H' → Q .non H') ∧ (∀ f u, toldOf (tl z) = some (f, u) → ∀ H' tp, Same H H' → H' tp = some (.tup [.int f, .int u]) → Q (.ref tp) H')
theorem ok_told {f : Addr} {fd : FuncData} {t : Tok} (F : Fun K "stay_told" "stay_told" sTold f fd) (mN : mg "MOST_NIGHTS" = some (.int 400 t)) (Dc : DefOf P w K mg base "count_in" 1 ["word", "most"] spCnt) (Dd : DefOf P w K mg base "day_in" 2 ["word"] spDin) (Dy : DefOf P w K mg base "is_day" 3 ["value"] (spDay K)) :
    FnOk P w K mg base CX0 4 f fd ["text"] spTold := by
  obtain ⟨fC, fdC, FC, mC, kC, bC⟩ := Dc.ex
  obtain ⟨fD, fdD, FD, mD, kD, bD⟩ := Dd.ex
  obtain ⟨fY, fdY, FY, mY, kY, bY⟩ := Dy.ex
  refine F.ok scTold (fun vs H Q E h => ?_) (fun cdv A outer s H vs Q E hr h => ?_)
  · obtain ⟨z, rfl, _⟩ := h
    rfl
  · obtain ⟨z, rfl, hz, q1, q2⟩ := h
    refine ⟨_, pss_cons (ps_asg (pe_partition (pv 0) pe_str) (pg_tup rfl (pgs_cons (pg_name (i := 1) scTold.nd rfl (.inl rfl)) (pgs_cons (pg_name (i := 2) scTold.nd rfl (.inl rfl)) (pgs_cons (pg_name (i := 3) scTold.nd rfl (.inl rfl)) pgs_nil)))))
      (pss_cons (ps_par (i := 4) (j := 5) rfl scTold.nd rfl rfl (by decide) rfl rfl (pa_cons (pe_call FD (hr.mono (by decide)) rfl mD kD bD .nil pass0 (pa_cons (pv 1) pa_nil)) (pa_cons (pe_call FC (hr.mono (by decide)) rfl mC kC bC .nil pass0 (pa_cons (pv 3) (pa_cons pe_int pa_nil))) pa_nil)) (by rfl))
      (pss_cons (ps_if (PW.pt (pw_or (pt_cmp (pc_isN (pv 4))) (pw_or (pt_cmp (pc_isN (pv 5))) (pw_or (pt_not (pt_chain op_le op_le pe_int (pv 5) (pe_glob (v := .int 400) (by rfl) mN ⟨_, rfl⟩)))
          (pw_or1 (pt_not (pt_val (pe_call FY hr rfl mY kY bY .nil pass0 (pa_cons (pe_op op_add (pv 4) (pv 5)) pa_nil)))))))))
          (pss_one (ps_ret pe_non)) pss_nil)
      (pss_one (ps_ret (pe_tup (pa_cons (pv 4) (pa_cons (pe_op op_add (pv 4) (pv 5)) pa_nil))))))), ?_⟩
    obtain ⟨p1, p2, p3⟩ := par_txt z
    have hl := par_len (tl z)
    rw [← len_tl] at hl
    refine rd_sag ⟨_, rfl, ⟨z, rfl⟩, z, "+", rfl, rfl, by decide +kernel, by rw [sizeLine_eq]; omega, fun tp htp => ⟨tp, _, rfl, .inl (.inl upd_same), rfl, _, _, rfl, _, _, rfl, _, _, rfl, rfl, ?_⟩⟩
    have s1 := same_new (o := .tup [.str (Txt.partition z "+").1, .str (Txt.partition z "+").2.1, .str (Txt.partition z "+").2.2]) (Same.refl H) htp
    refine rd_sp (rd_cons (rd_call (rd_cons (rd_var rfl (rd_nil ⟨_, rfl, by rw [len_tl, p1]; omega, fun H2 s2 => ?_⟩)))))
    refine rd_cons (rd_call (rd_cons (rd_var rfl (rd_cons (rd_c (rd_nil ⟨_, 3, rfl, by rw [len_tl, p3]; omega, fun H3 s3 => rd_nil ⟨_, _, rfl, ?_⟩⟩))))))
    rw [p1, p3]
    have sA := (s1.trans s2).trans s3
    unfold toldOf at q1 q2
    cases e1 : dayOf (parL (tl z)).1 with
    | none =>
      rw [e1] at q1
      exact rd_sif0 (rd_or (rd_b (rd_var rfl ⟨_, rfl, iteT (iteT (rd_ret (rd_c (q1 rfl _ sA))))⟩)))
    | some f =>
      rw [e1] at q1 q2
      refine rd_sif0 (rd_or (rd_b (rd_var rfl ⟨_, rfl, iteF ?_⟩)))
      cases e2 : cntOf (parL (tl z)).2.2 3 with
      | none =>
        rw [e2] at q1
        exact rd_or (rd_b (rd_var rfl ⟨_, rfl, iteT (iteT (rd_ret (rd_c (q1 rfl _ sA))))⟩))
      | some n =>
        rw [e2] at q1 q2
        dsimp only at q1 q2
        refine rd_or (rd_b (rd_var rfl ⟨_, rfl, iteF (rd_or (rd_not (rd_test ?_)))⟩))
        by_cases c5 : (decide (1 ≤ n) && decide (n ≤ 400)) = true
        · rw [if_pos c5] at q1 q2
          simp only [Bool.and_eq_true, decide_eq_true_eq] at c5
          refine ⟨_, rfl, _, _, rfl, rfl, _, rfl, ?_⟩
          rw [decide_eq_true c5.1]
          refine iteT ⟨_, _, rfl, rfl, _, rfl, ?_⟩
          rw [decide_eq_true c5.2]
          refine iteF (rd_not (rd_b (rd_call (rd_cons (rd_op (rd_var rfl (rd_var rfl ⟨_, _, rfl, rfl, rd_nil ⟨_, rfl, .inl ⟨f + n, rfl, _, rfl, ?_⟩⟩⟩)))))))
          cases c6 : dayB (f + n) with
          | false =>
            rw [c6] at q1
            exact iteT (rd_ret (rd_c (q1 rfl _ sA)))
          | true =>
            rw [c6] at q2
            refine iteF (rd_ret (rd_tup (rd_cons (rd_var rfl (rd_cons (rd_op (rd_var rfl (rd_var rfl ⟨_, _, rfl, rfl, rd_nil ⟨by show 2 ≤ sizeLine; decide, fun tp2 h2 => ?_⟩⟩))))))))
            exact q2 f (f + n) rfl _ tp2 (sA.trans (same_new (Same.refl _) h2)) upd_same
        · rw [if_neg c5] at q1
          have nn := q1 rfl _ sA
          refine ⟨_, rfl, _, _, rfl, rfl, _, rfl, ite2 (fun c6 => ⟨_, _, rfl, rfl, _, rfl, ?_⟩) (fun c6 => ⟨_, rfl, iteT (iteT (rd_ret (rd_c nn)))⟩)⟩
          rw [c6, Bool.true_and] at c5
          rw [Bool.eq_false_iff.mpr c5]
          exact iteT (iteT (rd_ret (rd_c nn)))
end
end NB
namespace NB
open PySem L2 NumText TL
section
variable {P : Program} {w : World} {K : PySem.W.Frag} {mg : Str → Option Value} {base : Heap}
abbrev sIBadText : Stmt := inClass (top 13) 0
theorem scIBadText : FnScope ["self", "line", "word"] ["self", "line", "word"] (defScope sIBadText) := ⟨rfl, rfl, rfl, by decide +kernel, rfl, by decide +kernel, by decide +kernel⟩
theorem okIBadText {f C : Addr} {fd : FuncData} (F : Fun K "__init__" "BadText.__init__" sIBadText f fd) (T : OexC K C) (hn : PySem.W.findIn K (.ref C) "line" = some none) (hm : PySem.W.findIn K (.ref C) "word" = some none) :
    FnOk P w K mg base CX0 1 f fd ["self", "line", "word"] (spI C ["line", "word"]) ∧ Binds K fd ["self", "line", "word"] [] := by
  refine ⟨F.ok scIBadText (fun vs H Q E h => ?_) (fun cdv A outer s H vs Q E hr h => ?_), F.binds (fun _ _ _ _ _ _ us hl => match us, hl with | [_, _, _], _ => rfl)⟩
  · obtain ⟨a, ws, rfl, hl, _⟩ := h
    rw [List.length_cons, hl]
    rfl
  · obtain ⟨a, ws, rfl, hl, ha, k⟩ := h
    match ws, hl with
    | [v, v2], _ =>
      refine ⟨_, pss_cons (ps_ost (pv 0) (pv 1)) (pss_one (ps_ost (pv 0) (pv 2))), ?_⟩
      refine ⟨_, rfl, _, rfl, a, C, rfl, T, hn, .inl ⟨ha, fun dx hdx ne => ?_⟩⟩
      refine ⟨_, rfl, _, rfl, a, C, rfl, T, hm, .inr ⟨dx, _, upd_same, (by rw [upd_ne ne]; exact upd_same), (by show 1 ≤ 900; decide), ?_⟩⟩
      exact k _ dx (fun b o n e => by rw [upd_ne (ne_of_none e hdx), upd_ne n, upd_ne (ne_of_none e hdx)]; exact e) hdx (by rw [upd_ne ne.symm]; exact upd_same) upd_same
end
/-- BadText(0, 0) leaves -/
def TxtE (B : Addr) (E : XK) (H : Hp) : Prop := ∀ (H' : Hp) (dd : Addr), Same H H' → H' dd = some (.xd [("word", .int 0), ("line", .int 0)]) → E (.ref B) (some dd) H'
theorem TxtE.keep {B : Addr} {E : XK} {H H1 : Hp} (b : TxtE B E H) (s : Same H H1) : TxtE B E H1 := fun H' dd s' e => b H' dd (s.trans s') e
structure BadT (P : Program) (w : World) (K : PySem.W.Frag) (mg : Str → Option Value) (base : Heap) (B : Addr) : Prop where
  mgC : mg "BadText" = some (.ref B)
  oex : OexC K B
  n1 : PySem.W.findIn K (.ref B) "line" = some none
  n2 : PySem.W.findIn K (.ref B) "word" = some none
  ini : ∃ (fI : Addr) (fd : FuncData), PySem.W.findIn K (.ref B) "__init__" = some (some (.ref fI)) ∧ PySem.W.typeIn K (.ref fI) = some (.type "function") ∧
    FnOk P w K mg base CX0 1 fI fd ["self", "line", "word"] (spI B ["line", "word"]) ∧ Binds K fd ["self", "line", "word"] []
theorem mk_badT {B : Addr} {E : XK} {H : Hp} {σ : SV} (h : TxtE B E H) : tMkO B (spI B ["line", "word"]) [] (tCons (tC (.int 0)) (tCons (tC (.int 0)) tNil)) σ H E := by
  refine ⟨by show 2 ≤ 1000; decide, fun a ha => ⟨a, [.int 0, .int 0], rfl, rfl, upd_same, fun H' d b hd ea ed => ⟨rfl, d, _, ea, ed, (fresh_upd hd).2, ?_⟩⟩⟩
  refine h _ d (fun x o e => ?_) upd_same
  have n1 := ne_of_none e ha
  have n2 := ne_of_none e (fresh_upd hd).2
  rw [upd_ne n2, del_ne n1]
  exact b x o n1 (by rw [upd_ne n1]; exact e)
theorem ps_badT {X : Cx} {B : Addr} {W : WX} {p1 p2 p3 p4 p5 : Pos} {j1 j2 : Nat} (Bd : BadT X.prog X.w X.K X.mg X.base B) (hr : Room 2 X.A) (hg : Gl X "BadText") (hc : X.calm = true) (tk : Takes X W) :
    PS X (.Raise (some (.Call (.Name "BadText" p1) [.Constant (.int 0) j1 p2, .Constant (.int 0) j2 p5] [] p3)) none p4) (fun _ σ H => TxtE B (fun cls d H' => W cls d σ H') H) := by
  obtain ⟨fI, fd, h1, h2, F, hb⟩ := Bd.ini
  have q := ps_raise (pos := p4) hc tk (pmk_oex (p := p1) (pos := p3) Bd.oex h1 h2 F hr hb .nil pass0 hg Bd.mgC (pa_cons (pe_int (i := 0) (j := j1) (pos := p2)) (pa_cons (pe_int (i := 0) (j := j2) (pos := p5)) pa_nil)))
  exact ⟨fun pins s σ H D I h => q.run pins s σ H D I (mk_badT h)⟩
section
variable {P : Program} {w : World} {K : PySem.W.Frag} {mg : Str → Option Value} {base : Heap} {B C Bt S : Addr}
/-! ### read -/
abbrev sRead : Stmt := sStay 2
theorem scRead : FnScope ["cls", "text", "told"] ["cls", "text"] (defScope sRead) := ⟨rfl, rfl, rfl, by decide +kernel, rfl, by decide +kernel, by decide +kernel⟩
def spRead (K : PySem.W.Frag) (C Bt : Addr) : Sp := fun vs H Q E => ∃ v : V, vs = [.ref C, v] ∧
  ((∃ z : Str, v = .str z ∧ z.length ≤ 600 ∧ (toldOf (tl z) = none → TxtE Bt E H) ∧ (∀ f u, toldOf (tl z) = some (f, u) → ∀ H' a, Same H H' → IsStay H' C a f u → Q (.ref a) H')) ∨
  (∃ ty, TyX K H v ty ∧ PySem.W.kitOne K ty (.type "str") = some false ∧ TxtE Bt E H))
theorem stay_of {f t : Int} (h : StayOkP f t) : StayOk f t := ⟨h.d1, h.d2, h.lt, h.le⟩
theorem ok_read {g : Addr} {fd : FuncData} (F : Fun K "read" "Stay.read" sRead g fd) (T : Bi mg) (St : StD P w K mg base B C) (Bd : BadT P w K mg base Bt) (Dt : DefOf P w K mg base "stay_told" 4 ["text"] spTold) : FnOk P w K mg base (CX P w) 6 g fd ["cls", "text"] (spRead K C Bt) := by
  obtain ⟨fT, fdT, FT, mT, kT, bT⟩ := Dt.ex
  obtain ⟨fI, fdI, M, FI, bI⟩ := St.ini
  refine F.okX scRead (fun vs H Q E h => ?_) (fun cdv A outer s H vs Q E hr h => ?_)
  · obtain ⟨v, rfl, _⟩ := h
    rfl
  · obtain ⟨v, rfl, h⟩ := h
    refine ⟨_, pss_cons (ps_set (i := 2) scRead.nd rfl (.inl rfl) (pe_ifExp (pt_val (pe_callB call_isi (by rfl) T.isinstance (by decide +kernel) (pa_cons (pv 1) (pa_cons (pe_bltn (v := .ty "str") (by rfl) T.str (by decide +kernel) rfl) pa_nil)))) (pe_call FT (hr.mono (by decide)) rfl mT kT bT .nil pass0 (pa_cons (pv 1) pa_nil)) pe_non))
      (pss_cons (ps_if (pt_cmp (pc_isN (pv 2))) (pss_one (ps_badT Bd (hr.mono (by decide)) rfl rfl (takes_of rfl rfl rfl rfl))) pss_nil)
      (pss_one (ps_ret (pe_makeV (i := 0) M FI hr rfl (.inl rfl) bI (passes_call (takes_of rfl rfl rfl rfl) fun _ _ _ _ h => h) (pa_cons (pe_ix ix_tup (pv 2) pe_int (fun _ _ => rfl)) (pa_cons (pe_ix ix_tup (pv 2) pe_int (fun _ _ => rfl)) pa_nil)))))), ?_⟩
    rcases h with ⟨z, rfl, hz, q1, q2⟩ | ⟨ty, hty, hk, q⟩
    · refine rd_sa (rd_ifE (rd_b (rd_cb (rd_cons (rd_var rfl (rd_cons (rd_c (rd_nil ⟨_, _, _, _, true, rfl, .ty _, .base (.str z), rfl, _, rfl, iteT ?_⟩))))))))
      refine rd_call (rd_cons (rd_var rfl (rd_nil ⟨z, rfl, hz, fun e H1 s1 => ?_, fun f u e H1 tp s1 htp => ?_⟩)))
      · exact rd_sif0 (rd_b (rd_var rfl ⟨_, rfl, iteT ((q1 e).keep s1)⟩))
      · have ok := stay_of (told_txt e).1
        refine rd_sif0 (rd_b (rd_var rfl ⟨_, rfl, iteF (rd_ret ⟨rfl, ?_⟩)⟩))
        refine rd_cons (rd_op (rd_var rfl (rd_c ⟨tp, _, 0, .int f, rfl, rfl, .inl (.inl htp), rfl, rd_cons (rd_op (rd_var rfl (rd_c ⟨tp, _, 1, .int u, rfl, rfl, .inl (.inl htp), rfl, rd_nil ?_⟩)))⟩)))
        exact mk_stay (fun _ H2 a s2 ha => q2 f u e H2 a (s1.trans s2) ha) (fun p e => by rw [stayBad_none ok] at e; cases e)
    · refine rd_sa (rd_ifE (rd_b (rd_cb (rd_cons (rd_var rfl (rd_cons (rd_c (rd_nil ⟨_, _, _, _, false, rfl, .ty _, hty, hk, _, rfl, iteF (rd_c ?_)⟩))))))))
      exact rd_sif0 (rd_b (rd_var rfl ⟨_, rfl, iteT q⟩))
end
end NB
namespace NB
open PySem L2 NumText TL
abbrev sHeard : Stmt := top 22
theorem scHeard : FnScope ["_law_ask", "_law_caught", "_law_found", "error"] ["_law_ask"] (defScope sHeard) := ⟨rfl, rfl, rfl, by decide +kernel, rfl, by decide +kernel, by decide +kernel⟩
/-- what heard tells: the text of the answer in a list, or the line and the word of a BadText -/
def THeard (Bt C : Addr) : (XK → Hp → VK → Prop) → Hp → VK → Prop := fun tl H Q => ∀ H0, Same H H0 →
  tl (fun cls d H' => cls = .ref Bt ∧ ∃ (dd : Addr) (fs : List (Str × V)) (x y : V), d = some dd ∧ H' dd = some (.xd fs) ∧ fs.lookup ("line" : Str) = some x ∧ fs.lookup ("word" : Str) = some y ∧ ∀ H2 t, Same H' H2 → H2 t = some (.tup [x, y]) → Q (.ref t) H2)
    H0 (fun v H1 => ∃ (a : Addr) (f u : Int), v = .ref a ∧ IsStay H1 C a f u ∧ ∀ H2 l, Same H1 H2 → H2 l = some (.lst [.str (stayTxt f u)]) → Q (.ref l) H2)
theorem pe_weak {X : Cx} {e : Expr} {t : TE} (h : PE X e t) : PE X e (fun σ H Q => ∃ Q' : VK, (∀ v H', Q' v H' → Q v H') ∧ t σ H Q') :=
  ⟨fun pins s σ H Q I ⟨Q', m, z⟩ => wpAny_mono (h.run pins s σ H Q' I z) (fun u s' ⟨v, H1, I1, r, q⟩ => ⟨v, H1, I1, r, m _ _ q⟩) (fun _ _ z => z)⟩
structure Heard (P : Program) (w : World) (K : PySem.W.Frag) (mg : Str → Option Value) (base : Heap) (S Bt C : Addr) : Prop where
  F : ∃ (g : Addr) (fd : FuncData), Fun K "_law_heard" "_law_heard" sHeard g fd ∧ mg "_law_heard" = some (.ref g)
  mS : mg "StayError" = some (.ref S)
  mB : mg "BadText" = some (.ref Bt)
  eB : PySem.W.exmOne K (.ref Bt) (.ref S) = some true
  kB : PySem.W.kitOne K (.ref Bt) (.ref Bt) = some true
  Z : ExcC K Bt
  Zf : XfC K Bt
  n1 : PySem.W.findIn K (.ref Bt) "line" = some none
  n2 : PySem.W.findIn K (.ref Bt) "word" = some none
  strm : OwnMP P w K mg base CX0 1 C "__str__" (spSStr C)
section
variable {X : Cx} {S Bt C : Addr}
theorem heard_gives {g : Addr} {cdg : Value} {q : Str} (Hd : Heard X.prog X.w X.K X.mg X.base S Bt C) (T : Bi X.mg) (hr : Room 5 X.A) :
    LamX.GivesTo X ["_law_ask", "_law_caught", "_law_found", "error"] "_law_heard" (defScope sHeard) g cdg (defBody sHeard) "_law_ask" q (THeard Bt C) := by
  intro f c' s H Q tl act hc h
  refine ⟨_, pss_cons (ps_asg (pe_tup (pa_cons pe_non (pa_cons pe_non pa_nil))) (pg_tup rfl (pgs_cons (pg_name (i := 1) scHeard.nd rfl (.inl rfl)) (pgs_cons (pg_name (i := 2) scHeard.nd rfl (.inl rfl)) pgs_nil))))
    (pss_cons (ps_try_keep (i := 3) (j := 1) (c := .ref S) (tb := fun W D σ H => ∃ Ech : XK, (∀ cls d σ' H', Ech cls d H' → W cls d σ' H') ∧ σ[0]? = some (some (.ref f)) ∧ H c' = some (LamX.CodeO c' q) ∧ ∃ Q' : VK, (∀ v H', Q' v H' → D.nx (σ.set 2 (some v)) H') ∧ tl Ech H Q') rfl rfl rfl scHeard.nd rfl rfl rfl rfl (by decide) rfl rfl rfl rfl Hd.mS (fun _ _ => rfl) (fun W pn xe tk _ => ?_))
    (pss_cons (ps_if (pt_cmp (pc_isN (pv 1))) (pss_one (ps_ret (pe_lst (pa_cons (pe_callTy (call_strO (C := C) (k := 1) (CX := CX0) (sp := spSStr C) ⟨Hd.strm.ex⟩ ((hr.deeper _).mono (by decide)) pass0) (by rfl) T.str (by decide +kernel) (pa_cons (pv 2) pa_nil)) pa_nil)))) pss_nil)
    (pss_one (ps_ret (pe_ifExp (pt_val (pe_callB call_isX (by rfl) T.isinstance (by decide +kernel) (pa_cons (pv 1) (pa_cons (pe_glob (v := .ref Bt) (by rfl) Hd.mB rfl) pa_nil))))
      (pe_tup (pa_cons (pe_efld (pv 1)) (pa_cons (pe_efld (pv 1)) pa_nil))) (pe_tup (pa_cons pe_str (pa_cons pe_non pa_nil)))))))), ?_⟩
  · refine ⟨fun pins s' σ H' D I h' => ?_⟩
    obtain ⟨Ech, hW, h1, h2, Q', m, h3⟩ := h'
    exact (pss_one (ps_set (i := 2) scHeard.nd rfl (.inl rfl) (pe_weak (act W pn xe Ech _ _ tk hW)))).run pins s' σ H' D I ⟨Q', m, h1, h2, h3⟩
  · refine ⟨by show 2 ≤ sizeLine; decide, fun t0 ht0 => ⟨t0, _, rfl, .inl (.inl upd_same), rfl, _, _, rfl, _, _, rfl, rfl, ?_⟩⟩
    have hc0 : upd H t0 (.tup [.non, .non]) c' = some (LamX.CodeO c' q) := by
      rw [upd_ne (ne_of_none hc ht0)]
      exact hc
    refine ⟨_, ?_, rfl, hc0, _, ?_, h _ (same_new (o := .tup [.non, .non]) (Same.refl _) ht0)⟩
    · rintro cls d σ' H' ⟨rfl, dd, fs, x, y, rfl, e1, e2, e3, k⟩
      refine ⟨Hd.eB, Bt, rfl, fun hl a ha => ?_⟩
      match σ', hl with
      | [s0, s1, s2, s3], _ =>
        have sm := same_new (o := exk a Bt (some dd)) (Same.refl H') ha
        have xd : XDict (upd H' a (exk a Bt (some dd))) dd fs := .old (sm _ _ e1)
        dsimp only
        refine rd_sif0 ?_
        refine ⟨_, rfl, _, rfl, ?_⟩
        refine ite2 (fun c => absurd (of_decide_eq_true c) (by intro z; cases z)) (fun _ => ?_)
        refine rd_ret (rd_ifE (rd_b (rd_cb ⟨_, rfl, a, Bt, some dd, fs, .ref Bt, .ref Bt, true, rfl, .kept upd_same, .have_ xd, Hd.Z, .own Bt, Hd.kB, _, rfl, iteT ?_⟩)))
        refine rd_tup (rd_cons ⟨_, rfl, a, Bt, dd, fs, x, rfl, .kept upd_same, xd, Hd.Zf, Hd.n1, e2, rd_cons ⟨_, rfl, a, Bt, dd, fs, y, rfl, .kept upd_same, xd, Hd.Zf, Hd.n2, e3, rd_nil ⟨by show 2 ≤ sizeLine; decide, fun t ht => ?_⟩⟩⟩)
        exact k _ t (same_new sm ht) upd_same
    · rintro v H1 ⟨a, ff, u, rfl, ha, k⟩
      dsimp only
      refine rd_sif0 ?_
      refine ⟨_, rfl, _, rfl, ?_⟩
      refine ite2 (fun _ => ?_) (fun c => absurd (decide_eq_true rfl) c)
      refine rd_ret (rd_lst (rd_cons (rd_cb (rd_cons (rd_var rfl (rd_nil (rd_strS ha (rd_nil ⟨by show 1 ≤ sizeLine; decide, fun l hl => ?_⟩))))))))
      exact k _ l (same_new (Same.refl _) hl) upd_same
theorem pe_heard {T : List (Addr × Str)} {c P : Addr} {k : Nat} {params : Arguments} {body : Expr} {scope : Scope} {t : XK → TE} {p lpos pos : Pos} (Hd : Heard X.prog X.w X.K X.mg X.base S Bt C) (Tb : Bi X.mg) (hg : Gl X "_law_heard")
    (TB : LamX.TabB X.base X.mg c P) (hcode : X.env.code = .ref c) (hmT : (P, X.env.qual ++ "<lambda>") ∈ T) (hu : ∀ p ∈ T, p.1 = P → p.2 = X.env.qual ++ "<lambda>") (h5 : Room 5 X.A) (hr : Room (k + 2) X.A) (L : LamX.LamS X.env.scope scope) (hdef : defaultsOf params X.env = ([], []))
    (hbind : ∀ (q : Str) (cl : List (Str × Addr)) (pm cv ctv : Value), bindArgs (PySem.W.kla_fn "<lambda>" q params body scope cl pm cv ctv) ⟨[], []⟩ = pure [])
    (hbody : ∀ (A : Around) (outer : List Env) (s : Shared) (H : Hp) (E : XK) (f c' : Addr), Room k (A.deeper (LamX.lamEnv X scope s.heap.objs.size f c')) → PE (LamX.lamCx X A outer s H E scope f c') body (t E)) :
    PE X (.Call (.Name "_law_heard" p) [.Lambda params body scope lpos] [] pos) (LamX.tLam T (THeard Bt C) t) := by
  obtain ⟨g, fd, F, hm⟩ := Hd.F
  have hb : Binds X.K fd ["_law_ask"] [] := F.binds (fun _ _ _ _ _ _ us hl => match us, hl with | [_], _ => rfl)
  have kp := F.kp
  obtain ⟨oc, od, kV, doc, pm, an, cdv, ct, osl, rfl, lk, hcd⟩ := F.ex
  exact LamX.pe_lamcall hg hm kp lk hcd hb scHeard rfl (.inl rfl) (heard_gives Hd Tb h5) TB hcode hmT hu hr L hdef hbind hbody
end
/-! ### the law's own look -/
abbrev okC (l : List Nat) : Prop := ∀ c ∈ l, c < 0x110000
theorem ch_ok {c : Nat} (h : c < 0x110000) : PyData.strOk ⟨#[c]⟩ = true := by
  show (#[c] : Array Nat).all (· < 0x110000) = true
  simp [h]
section
variable {K : PySem.W.Frag} {H : Hp}
theorem dp_chars : ∀ l : List Nat, DpAll K H (l.map fun c => V.str ⟨#[c]⟩) (l.map fun c => PyData.str ⟨#[c]⟩)
  | [] => .nil
  | c :: l => .cons (.str _) (dp_chars l)
theorem canLay_chars : ∀ l : List Nat, okC l → PyData.canLayAll0 (l.map fun c => PyData.str ⟨#[c]⟩) = true
  | [], _ => rfl
  | c :: l, h => by
    show (PyData.canLay0 (.str ⟨#[c]⟩) && PyData.canLayAll0 (l.map fun c => PyData.str ⟨#[c]⟩)) = true
    rw [canLay_chars l fun x hx => h x (List.mem_cons_of_mem _ hx)]
    show (PyData.strOk ⟨#[c]⟩ && true) = true
    rw [ch_ok (h c (List.mem_cons_self ..))]
    rfl
theorem depth_chars : ∀ l : List Nat, PyData.depthAll (l.map fun c => PyData.str ⟨#[c]⟩) = 0
  | [] => rfl
  | c :: l => by
    show max (PyData.depth (.str ⟨#[c]⟩)) (PyData.depthAll (l.map fun c => PyData.str ⟨#[c]⟩)) = 0
    rw [depth_chars l]
    rfl
theorem shaped_chars {l : List Nat} (h : okC l) : SeqAt.shaped (.list (l.map fun c => PyData.str ⟨#[c]⟩)) = true := by
  unfold SeqAt.shaped
  have h1 : PyData.canLay0 (.list (l.map fun c => PyData.str ⟨#[c]⟩)) = true := canLay_chars l h
  have h2 : PyData.depth (.list (l.map fun c => PyData.str ⟨#[c]⟩)) = 1 := by
    show PyData.depthAll (l.map fun c => PyData.str ⟨#[c]⟩) + 1 = 1
    rw [depth_chars]
  rw [h1, h2]
  rfl
theorem eqv_chars {l : List Nat} : PyData.eqv (.list (l.map fun c => PyData.str ⟨#[c]⟩)) (.list []) = l.isEmpty := by
  cases l with
  | nil => rfl
  | cons n ns => rfl
end
section
variable {P : Program} {w : World} {K : PySem.W.Frag} {mg : Str → Option Value} {base : Heap}
abbrev sIc : Stmt := top 23
abbrev nIc : List Str := ["_law_word", "_law_figures", "_law_sign"]
theorem scIc : FnScope nIc ["_law_word", "_law_figures"] (defScope sIc) := ⟨rfl, rfl, rfl, by decide +kernel, rfl, by decide +kernel, by decide +kernel⟩
def spIc : Sp := fun vs H Q _ => ∃ (z : Str) (m : Nat), vs = [.str z, .int m] ∧ z.length ≤ 600 ∧ okC (tl z) ∧ ∀ H', Same H H' → Q (.bl (cntB (tl z) m)) H'
theorem ok_ic {f : Addr} {fd : FuncData} (F : Fun K "_law_is_count" "_law_is_count" sIc f fd) (T : Bi mg) : FnOk P w K mg base CX0 3 f fd ["_law_word", "_law_figures"] spIc := by
  refine F.ok scIc (fun vs H Q E h => ?_) (fun cdv A outer s H vs Q E hr h => ?_)
  · obtain ⟨z, m, rfl, _⟩ := h
    rfl
  · obtain ⟨z, m, rfl, hz, hok, k⟩ := h
    refine ⟨_, pss_cons (ps_if (PW.pt (pw_or (pt_cmpR op_eq (pv 0) pe_str (nomark _)) (pw_or (pt_cmpR op_gt (pe_callB call_len_str (by rfl) T.len PySem.boot_len (pa_cons (pv 0) pa_nil)) (pv 1) (nomark _))
        (pw_or1 (pt_cmpR (op_neD hr.units) (pe_lc (own := [("_law_sign", 2)]) (g := gName 2) (tt := tTest (tOp (fun x y H Q => ∃ (c : Nat) (z : Str), x = .str ⟨#[c]⟩ ∧ y = .str z ∧ Q (.bl (!decide (c ∈ z.cps.toList))) H) (tVar 2) (tC (.str FIG)))) (te := tVar 2) (by rfl) scIc.nd (pi_str (pv 0)) (blkOk_by (own := [("_law_sign", 2)]) (N := nIc) (sc := defScope sIc) (by decide +kernel))
            (fun _ _ _ _ _ => pg_name (i := 2) scIc.nd rfl (.inl rfl)) (fun _ _ _ _ _ => pts_one (pt_cmpR op_notIn_sign (pv 2) pe_str rfl)) (fun _ _ _ _ _ => pv 2)) (pe_lst pa_nil) (nomark _)))))) (pss_one (ps_ret pe_bl)) pss_nil)
      (pss_one (ps_ret (pe_or (pe_cmpR op_eq (pv 0) pe_str (nomark _)) (pe_one (pe_cmpR op_ne (pe_item_str (pv 0) pe_int (fun _ _ => rfl)) pe_str (nomark _)))))), ?_⟩
    have hz' : z.length < sizeLine := by rw [sizeLine_eq]; omega
    have no : cntB (tl z) m = false → ∀ H', Same H H' → Q (.bl false) H' := fun e H' s' => by
      have q := k H' s'
      rw [e] at q
      exact q
    refine rd_sif0 (rd_or (rd_test (rd_op (rd_var rfl (rd_c ⟨rfl, _, rfl, ?_⟩)))))
    rw [str_lit (l := []) (by decide +kernel)]
    refine ite2 (fun c => iteT (rd_ret (rd_c (no ?_ _ (Same.refl _))))) (fun c1 => ?_)
    · rw [of_decide_eq_true c]
      rfl
    have c1 : tl z ≠ [] := fun e => c1 (decide_eq_true e)
    refine rd_or (rd_test (rd_op (rd_cb (rd_cons (rd_var rfl (rd_nil ⟨z, rfl, Nat.le_of_lt hz', rd_var rfl ⟨_, _, rfl, rfl, _, rfl, ?_⟩⟩))))))
    refine ite2 (fun c => iteT (rd_ret (rd_c (no ?_ _ (Same.refl _))))) (fun c2 => ?_)
    · have c := of_decide_eq_true c
      unfold cntB
      have e : decide ((tl z).length ≤ m) = false := decide_eq_false (by rw [← len_tl]; omega)
      rw [e, Bool.false_and, Bool.and_false]
    have c2 : (tl z).length ≤ m := by
      have : ¬ ((z.length : Int) > (m : Int)) := fun e => c2 (decide_eq_true e)
      rw [← len_tl]
      omega
    refine rd_test (rd_op ⟨_, rfl, z, rfl, fun D1 hD1 => lc_filS (fun c => !fig c) (fun c => .str ⟨#[c]⟩) hD1 hz' (fun _ => rfl) (fun c _ H' Q _ q => rd_test (rd_op (rd_var rfl (rd_c ⟨c, FIG, rfl, rfl, _, rfl, by rw [fig_mem]; exact q⟩)))) (fun c _ H' Q _ q => rd_var rfl q) ?_⟩)
    have sD := same_new (o := .lst (((tl z).filter fun c => !fig c).map fun c => .str ⟨#[c]⟩)) (Same.refl H) hD1
    have eD : upd H D1 (.lst (((tl z).filter fun c => !fig c).map fun c => .str ⟨#[c]⟩)) D1 = some (.lst (((tl z).filter fun c => !fig c).map fun c => .str ⟨#[c]⟩)) := upd_same
    generalize upd H D1 (.lst (((tl z).filter fun c => !fig c).map fun c => .str ⟨#[c]⟩)) = H1 at sD eD
    refine rd_lst (rd_nil ⟨Nat.zero_le _, fun l0 hl0 => ?_⟩)
    have s2 := same_new (o := .lst []) (Same.refl H1) hl0
    have hof : okC ((tl z).filter fun c => !fig c) := fun c hc => hok c (List.mem_filter.mp hc).1
    refine ⟨.list (((tl z).filter fun c => !fig c).map fun c => PyData.str ⟨#[c]⟩), .list [], .lst (SqL.of (s2 _ _ eD)) (dp_chars _), .lst (SqL.of upd_same) .nil, shaped_chars hof, by decide +kernel, _, rfl, ?_⟩
    rw [eqv_chars]
    have sA := sD.trans s2
    have ea : ((tl z).filter fun c => !fig c).isEmpty = (tl z).all fig := by
      rw [Bool.eq_iff_iff, List.isEmpty_iff, List.filter_eq_nil_iff, List.all_eq_true]
      constructor
      · intro h c hc
        have := h c hc
        simpa using this
      · intro h c hc
        have := h c hc
        simp only [this, Bool.not_true]
        exact Bool.false_ne_true
    rw [ea]
    generalize upd H1 l0 (.lst []) = H2 at s2 sA
    cases c3 : (tl z).all fig with
    | false =>
      refine iteT (rd_ret (rd_c (no ?_ _ sA)))
      unfold cntB
      rw [c3, Bool.false_and, Bool.and_false, Bool.and_false]
    | true =>
      have yes : (tl z = [48] ∨ (tl z).head? ≠ some 48) → Q (.bl true) H2 := fun c4 => by
        have q := k H2 sA
        have e : cntB (tl z) m = true := by
          unfold cntB
          simp only [Bool.and_eq_true, Bool.or_eq_true, Bool.not_eq_true', decide_eq_true_eq, decide_eq_false_iff_not, List.isEmpty_eq_false_iff]
          exact ⟨c1, c2, c3, c4⟩
        rw [e] at q
        exact q
      refine iteF (rd_ret (rd_op (rd_var rfl (rd_c ⟨rfl, _, rfl, ?_⟩))))
      rw [str_lit (l := [48]) (by decide +kernel)]
      refine ite2 (fun c => yes (.inl (of_decide_eq_true c))) (fun c4 => ?_)
      have c4 : tl z ≠ [48] := fun e => c4 (decide_eq_true e)
      obtain ⟨c0, r0, er⟩ : ∃ c0 r0, tl z = c0 :: r0 := by
        cases e : tl z with
        | nil => exact absurd e c1
        | cons c0 r0 => exact ⟨c0, r0, rfl⟩
      have g0 : z.cps[(0 : Int).toNat]? = some c0 := by
        have : (tl z)[0]? = some c0 := by rw [er]; rfl
        unfold tl at this
        rw [Array.getElem?_toList] at this
        exact this
      have lz : (0 : Int) < z.length := by
        rw [len_tl, er]
        exact Int.ofNat_lt.mpr (Nat.succ_pos _)
      refine rd_op (rd_op (rd_var rfl (rd_c ⟨z, 0, c0, rfl, rfl, by decide, by decide, lz, g0, rd_c ⟨rfl, ?_⟩⟩)))
      rw [str_lit (z := ⟨#[c0]⟩) (l := [48]) (by decide +kernel)]
      show Q (.bl (!decide ([c0] = [48]))) _
      by_cases c5 : c0 = 48
      · rw [decide_eq_true (by rw [c5])]
        refine no ?_ _ sA
        unfold cntB
        have e : (decide (tl z = [48]) || !decide ((tl z).head? = some 48)) = false := by
          rw [decide_eq_false c4, er, c5]
          rfl
        rw [e, Bool.and_false, Bool.and_false, Bool.and_false]
      · rw [decide_eq_false (fun e => c5 (List.head_eq_of_cons_eq e))]
        exact yes (.inr (by rw [er]; exact fun e => c5 (Option.some.inj e)))
end
end NB
namespace NB
open PySem L2 NumText TL
theorem int_head {y : Str} (h : cntB (bareL (tl y)) 12 = true) : intText? y = some (intOf (tl y)) ∧ y.length ≤ 13 := by
  obtain ⟨q1, q2, q3, q4⟩ := cntB_is h
  by_cases c : (tl y).head? = some 45
  · have e : bareL (tl y) = (tl y).tail := by unfold bareL; rw [if_pos c]
    rw [e] at q1 q2 q3
    obtain ⟨cs, ec⟩ : ∃ cs, tl y = 45 :: cs := by
      cases hy : tl y with
      | nil => rw [hy] at c; cases c
      | cons a r =>
        rw [hy] at c
        have : a = 45 := Option.some.inj c
        rw [this]
        exact ⟨r, rfl⟩
    rw [ec] at q1 q2 q3
    have ly : y.length ≤ 13 := by
      rw [len_tl, ec, List.length_cons]
      have : cs.length ≤ 12 := q3
      omega
    refine ⟨?_, ly⟩
    have := intText_neg (x := y) ec q1 q2 (by omega)
    rw [this]
    unfold intOf
    rw [if_pos c, ec]
    rfl
  · have e : bareL (tl y) = tl y := by unfold bareL; rw [if_neg c]
    rw [e] at q1 q2 q3
    have ly : y.length ≤ 13 := by
      rw [len_tl]
      omega
    refine ⟨?_, ly⟩
    have := intText_digits (x := y) q1 q2 (by omega)
    rw [this]
    unfold intOf
    rw [if_neg c]
theorem int_tail {y : Str} {m : Nat} (h : cntB (tl y) m = true) (hm : m ≤ 100) : intText? y = some (digitsVal (tl y) : Int) ∧ y.length ≤ 100 := by
  obtain ⟨q1, q2, q3, q4⟩ := cntB_is h
  have ly : y.length ≤ 100 := by rw [len_tl]; omega
  exact ⟨intText_digits (x := y) q1 q2 (by omega), ly⟩
theorem par_sub {l : List Nat} : (∀ c ∈ (parL l).1, c ∈ l) ∧ (∀ c ∈ (parL l).2.2, c ∈ l) := by
  unfold parL
  split
  · rename_i h
    have e := take_par h
    refine ⟨fun c hc => ?_, fun c hc => ?_⟩
    · rw [← e]
      exact List.mem_append_left _ hc
    · rw [← e]
      exact List.mem_append_right _ (List.mem_cons_of_mem _ hc)
  · exact ⟨fun c hc => hc, fun c hc => by cases hc⟩
theorem bare_sub {l : List Nat} : (∀ c ∈ bareL l, c ∈ l) ∧ (bareL l).length ≤ l.length := by
  unfold bareL
  split
  · exact ⟨fun c hc => List.mem_of_mem_tail hc, by rw [List.length_tail]; omega⟩
  · exact ⟨fun c hc => hc, Nat.le_refl _⟩
theorem cut_sub (z : Str) (lo hi : Option Int) : (cutS z lo hi).length ≤ z.length ∧ ∀ c ∈ tl (cutS z lo hi), c ∈ tl z :=
  ⟨cutS_length z lo hi, fun c hc => List.mem_of_mem_drop (List.mem_of_mem_take (show c ∈ ((z.cps.toList.drop (HT.sIx z.length 0 lo)).take (HT.sIx z.length z.length hi - HT.sIx z.length 0 lo)) from hc))⟩
section
variable {σ : SV} {H : Hp} {Q : VK} {te tp : TE} {z : Str} {w : Int}
theorem rd_sl1 (ht : ∀ Q : VK, Q (.str z) H → te σ H Q) (lz : z.length ≤ sizeLine) (hp : ∀ Q : VK, Q (.int w) H → tp σ H Q) (q : Q (.str (cutS z none (some w))) H) : tSl rSlS te tNoPart (tPart tp) σ H Q := ht _ (hp _ ⟨w, rfl, z, rfl, lz, q⟩)
theorem rd_sl2 (ht : ∀ Q : VK, Q (.str z) H → te σ H Q) (lz : z.length ≤ sizeLine) (hp : ∀ Q : VK, Q (.int w) H → tp σ H Q) (q : Q (.str (cutS z (some w) none)) H) : tSl rSlS te (tPart tp) tNoPart σ H Q := ht _ (hp _ ⟨w, rfl, z, rfl, lz, q⟩)
end
theorem rd_chain {r r' : R2} {ta tb tc : TE} {σ : SV} {H : Hp} {Q : VK} (h : ta σ H fun x H1 => tb σ H1 fun y H2 => r x y H2 fun z H3 => ∃ k, z = .bl k ∧ (if k = true then tc σ H3 fun w' H4 => r' y w' H4 Q else Q (.bl false) H3)) : tChain r r' ta tb tc σ H Q := h
section
variable {P : Program} {w : World} {K : PySem.W.Frag} {mg : Str → Option Value} {base : Heap}
abbrev sIt : Stmt := top 24
theorem scIt : FnScope ["_law_line", "_law_head", "_law_sign", "_law_tail", "_law_bare"] ["_law_line"] (defScope sIt) := ⟨rfl, rfl, rfl, by decide +kernel, rfl, by decide +kernel, by decide +kernel⟩
def spIt : Sp := fun vs H Q _ => ∃ (z : Str), vs = [.str z] ∧ z.length ≤ 600 ∧ okC (tl z) ∧ ∀ H', Same H H' → Q (.bl (isT (tl z))) H'
theorem ok_it {f : Addr} {fd : FuncData} (F : Fun K "_law_is_text" "_law_is_text" sIt f fd) (T : Bi mg) (Dc : DefOf P w K mg base "_law_is_count" 3 ["_law_word", "_law_figures"] spIc) : FnOk P w K mg base CX0 4 f fd ["_law_line"] spIt := by
  obtain ⟨fC, fdC, FC, mC, kC, bC⟩ := Dc.ex
  refine F.ok scIt (fun vs H Q E h => ?_) (fun cdv A outer s H vs Q E hr h => ?_)
  · obtain ⟨z, rfl, _⟩ := h
    rfl
  · obtain ⟨z, rfl, hz, hok, k⟩ := h
    refine ⟨_, pss_cons (ps_asg (pe_partition (pv 0) pe_str) (pg_tup rfl (pgs_cons (pg_name (i := 1) scIt.nd rfl (.inl rfl)) (pgs_cons (pg_name (i := 2) scIt.nd rfl (.inl rfl)) (pgs_cons (pg_name (i := 3) scIt.nd rfl (.inl rfl)) pgs_nil)))))
      (pss_cons (ps_set (i := 4) scIt.nd rfl (.inl rfl) (pe_ifExp (pt_cmpR op_eq (pe_slice sl_str (pv 1) po_none (po_some pe_int)) pe_str (nomark _)) (pe_slice sl_str (pv 1) (po_some pe_int) po_none) (pv 1)))
      (pss_cons (ps_if (PW.pt (pw_or (pt_not (pt_val (pe_call FC hr rfl mC kC bC .nil pass0 (pa_cons (pv 4) (pa_cons pe_int pa_nil))))) (pw_or (pt_cmpR op_eq (pv 1) pe_str (nomark _)) (pw_or (pt_cmpR op_eq (pv 2) pe_str (nomark _))
          (pw_or1 (pt_not (pt_val (pe_call FC hr rfl mC kC bC .nil pass0 (pa_cons (pv 3) (pa_cons pe_int pa_nil)))))))))) (pss_one (ps_ret pe_bl)) pss_nil)
      (pss_one (ps_ret (pe_and (pe_chain op_le op_le pe_int (pe_callTy call_int_str (by rfl) T.int (by decide +kernel) (pa_cons (pv 3) pa_nil)) pe_int)
          (pe_one (pe_cmpR op_lt (pe_op op_add (pe_callTy call_int_str (by rfl) T.int (by decide +kernel) (pa_cons (pv 1) pa_nil)) (pe_callTy call_int_str (by rfl) T.int (by decide +kernel) (pa_cons (pv 3) pa_nil))) (pe_op op_pow pe_int pe_int) (nomark _)))))))), ?_⟩
    obtain ⟨p1, p2, p3⟩ := par_txt z
    have hl := par_len (tl z)
    rw [← len_tl] at hl
    have sb := par_sub (l := tl z)
    refine rd_sag ⟨_, rfl, ⟨z, rfl⟩, z, "+", rfl, rfl, by decide +kernel, by rw [sizeLine_eq]; omega, fun tp htp => ⟨tp, _, rfl, .inl (.inl upd_same), rfl, _, _, rfl, _, _, rfl, _, _, rfl, rfl, ?_⟩⟩
    have s1 := same_new (o := .tup [.str (Txt.partition z "+").1, .str (Txt.partition z "+").2.1, .str (Txt.partition z "+").2.2]) (Same.refl H) htp
    generalize upd H tp (.tup [.str (Txt.partition z "+").1, .str (Txt.partition z "+").2.1, .str (Txt.partition z "+").2.2]) = H1 at s1
    generalize (Txt.partition z "+").1 = hd at p1
    generalize (Txt.partition z "+").2.1 = sg at p2
    generalize (Txt.partition z "+").2.2 = ta at p3
    refine rd_sa (rd_bare rfl (by rw [len_tl, p1]; omega) fun br hbr => ?_)
    have bs := bare_sub (l := tl hd)
    have lb : br.length ≤ 600 := by
      rw [len_tl, hbr]
      have := bs.2
      rw [p1] at this ⊢
      omega
    have ob : okC (tl br) := fun c hc => by
      rw [hbr] at hc
      have := bs.1 c hc
      rw [p1] at this
      exact hok c (sb.1 c this)
    have ot : okC (tl ta) := fun c hc => by
      rw [p3] at hc
      exact hok c (sb.2 c hc)
    have lt : ta.length ≤ 600 := by rw [len_tl, p3]; omega
    have kk : ∀ H', Same H1 H' → Q (.bl (isT (tl z))) H' := fun H' s' => k H' (s1.trans s')
    unfold isT at kk
    rw [← p1, ← p2, ← p3] at kk
    have e0 : tl (Str.ofString "-0") = [45, 48] := by decide +kernel
    refine rd_sif0 (rd_or (rd_not (rd_b (rd_call (rd_cons (rd_var rfl (rd_cons (rd_c (rd_nil ⟨br, 12, rfl, lb, ob, fun H2 s2 => ⟨_, rfl, ?_⟩⟩)))))))))
    rw [hbr]
    cases c1 : cntB (bareL (tl hd)) 12 with
    | false =>
      rw [c1] at kk
      exact iteT (iteT (rd_ret (rd_c (kk H2 s2))))
    | true =>
      rw [c1] at kk
      refine iteF (rd_or (rd_test (rd_op (rd_var rfl (rd_c ⟨rfl, _, rfl, ?_⟩)))))
      rw [str_lit (l := [45, 48]) e0]
      cases c2 : decide (tl hd = [45, 48]) with
      | true =>
        rw [c2] at kk
        exact iteT (iteT (rd_ret (rd_c (kk H2 s2))))
      | false =>
        rw [c2] at kk
        refine iteF (rd_or (rd_test (rd_op (rd_var rfl (rd_c ⟨rfl, _, rfl, ?_⟩)))))
        rw [str_lit (l := []) (by decide +kernel)]
        cases c3 : decide (tl sg = []) with
        | true =>
          rw [c3] at kk
          exact iteT (iteT (rd_ret (rd_c (kk H2 s2))))
        | false =>
          rw [c3] at kk
          refine iteF (rd_not (rd_b (rd_call (rd_cons (rd_var rfl (rd_cons (rd_c (rd_nil ⟨ta, 3, rfl, lt, ot, fun H3 s3 => ⟨_, rfl, ?_⟩⟩))))))))
          cases c4 : cntB (tl ta) 3 with
          | false =>
            rw [c4] at kk
            exact iteT (rd_ret (rd_c (kk H3 (s2.trans s3))))
          | true =>
            rw [c4] at kk
            have q := kk H3 (s2.trans s3)
            obtain ⟨i1, i2⟩ := int_head c1
            obtain ⟨j1, j2⟩ := int_tail c4 (by decide)
            have e12 : (10 : Int) ^ (12 : Int).toNat = 1000000000000 := by decide
            have q : Q (.bl ((decide (1 ≤ (digitsVal (tl ta) : Int)) && decide ((digitsVal (tl ta) : Int) ≤ 400)) && decide (intOf (tl hd) + (digitsVal (tl ta) : Int) < 1000000000000))) H3 := q
            refine iteF (rd_ret (rd_andV (rd_chain (rd_c (rd_cb (rd_cons (rd_var rfl (rd_nil ⟨ta, _, rfl, j1, by omega, _, _, rfl, rfl, _, rfl, ?_⟩))))))))
            by_cases c5 : 1 ≤ (digitsVal (tl ta) : Int)
            · rw [decide_eq_true c5]
              refine iteT ⟨_, _, rfl, rfl, _, rfl, ?_⟩
              by_cases c6 : (digitsVal (tl ta) : Int) ≤ 400
              · rw [decide_eq_true c6]
                refine iteT (rd_op (rd_op (rd_cb (rd_cons (rd_var rfl (rd_nil ⟨hd, _, rfl, i1, by omega, rd_cb (rd_cons (rd_var rfl (rd_nil ⟨ta, _, rfl, j1, by omega, _, _, rfl, rfl, ?_⟩)))⟩))))))
                refine rd_op (rd_c (rd_c ⟨_, _, rfl, rfl, ⟨by decide, by decide, by decide⟩, _, _, rfl, rfl, ?_⟩))
                rw [e12]
                rw [decide_eq_true c5, decide_eq_true c6] at q
                exact q
              · rw [decide_eq_false c6]
                rw [decide_eq_false c6, Bool.and_false, Bool.false_and] at q
                exact iteF q
            · rw [decide_eq_false c5]
              rw [decide_eq_false c5, Bool.false_and, Bool.false_and] at q
              exact iteF ⟨_, rfl, iteF q⟩
abbrev sBe : Stmt := top 25
theorem scBe : FnScope ["_law_pen_here", "_law_line", "_law_way", "_law_at", "_law_sign"] ["_law_pen_here", "_law_line"] (defScope sBe) := ⟨rfl, rfl, rfl, by decide +kernel, rfl, by decide +kernel, by decide +kernel⟩
def spBe : Sp := fun vs H Q _ => ∃ (p c : Addr) (ns : List Int) (i r : Int) (z : Str), vs = [.ref p, .str z] ∧ Pen H p c ns i r ∧ i ≤ 9000 ∧ z.length ≤ 100 ∧ okC (tl z) ∧
  ∀ (H' : Hp) (i' r' : Int) (y : Str), But p H H' → Pen H' p c ns i' r' → i' ≤ i + 3 → y.length ≤ 3 * z.length + 3 → okC (tl y) → Q (.str y) H'
theorem ok_be {fa : Addr} {fd : FuncData} (F : Fun K "_law_bent" "_law_bent" sBe fa fd) (T : Bi mg) (Dd : DefOf P w K mg base "_law_draw" 1 ["_law_pen_here", "_law_many"] spDraw)
    (Dp : DefOf P w K mg base "_law_pick" 2 ["_law_pen_here", "_law_some"] spPick) : FnOk P w K mg base CX0 3 fa fd ["_law_pen_here", "_law_line"] spBe := by
  obtain ⟨fD, fdD, FD, mD, kD, bD⟩ := Dd.ex
  obtain ⟨fP, fdP, FP, mP, kP, bP⟩ := Dp.ex
  refine F.ok scBe (fun vs H Q E h => ?_) (fun cdv A outer s H vs Q E hr h => ?_)
  · obtain ⟨p, c, ns, i, r, z, rfl, _⟩ := h
    rfl
  · obtain ⟨p, c, ns, i, r, z, rfl, pen, hi, hz, hok, k⟩ := h
    have r1 := hr.mono (show 1 ≤ 2 by decide)
    refine ⟨_, pss_cons (ps_par (i := 2) (j := 3) rfl scBe.nd rfl rfl (by decide) rfl rfl (pa_cons (pe_call FD r1 rfl mD kD bD .nil pass0 (pa_cons (pv 0) (pa_cons pe_int pa_nil))) (pa_cons (pe_call FD r1 rfl mD kD bD .nil pass0 (pa_cons (pv 0) (pa_cons (pe_op op_add (pe_callB call_len_str (by rfl) T.len PySem.boot_len (pa_cons (pv 1) pa_nil)) pe_int) pa_nil))) pa_nil)) (by rfl))
      (pss_cons (ps_set (i := 4) scBe.nd rfl (.inl rfl) (pe_call FP hr rfl mP kP bP .nil pass0 (pa_cons (pv 0) (pa_cons (pe_lst (pa_cons pe_str (pa_cons pe_str (pa_cons pe_str (pa_cons pe_str (pa_cons pe_str (pa_cons pe_str (pa_cons pe_str (pa_cons pe_str (pa_cons pe_str (pa_cons pe_str (pa_cons pe_str (pa_cons pe_str pa_nil))))))))))))) pa_nil))))
      (pss_cons (ps_if (pt_cmpR op_eq (pv 2) pe_int (nomark _)) (pss_one (ps_ret (pe_op op_add_str (pe_slice sl_str (pv 1) po_none (po_some (pv 3))) (pe_slice sl_str (pv 1) (po_some (pe_op op_add (pv 3) pe_int)) po_none)))) pss_nil)
      (pss_cons (ps_if (pt_cmpR op_eq (pv 2) pe_int (nomark _)) (pss_one (ps_ret (pe_op op_add_str (pe_op op_add_str (pe_slice sl_str (pv 1) po_none (po_some (pv 3))) (pv 4)) (pe_slice sl_str (pv 1) (po_some (pv 3)) po_none)))) pss_nil)
      (pss_cons (ps_if (pt_cmpR op_eq (pv 2) pe_int (nomark _)) (pss_one (ps_ret (pe_op op_add_str (pe_op op_add_str (pe_slice sl_str (pv 1) po_none (po_some (pv 3))) (pe_revS (pe_slice sl_str (pe_slice sl_str (pv 1) (po_some (pv 3)) po_none) po_none (po_some pe_int)))) (pe_slice sl_str (pv 1) (po_some (pe_op op_add (pv 3) pe_int)) po_none)))) pss_nil)
      (pss_one (ps_ret (pe_op op_add_str (pe_op op_add_str (pe_slice sl_str (pv 1) po_none (po_some (pv 3))) (pv 4)) (pe_slice sl_str (pv 1) (po_some (pe_op op_add (pv 3) pe_int)) po_none)))))))), ?_⟩
    have lz : z.length ≤ sizeLine := by rw [sizeLine_eq]; omega
    refine rd_sp (rd_cons (rd_call (rd_cons (rd_var rfl (rd_cons (rd_c (rd_nil ⟨p, c, ns, i, r, _, rfl, pen, by omega, by decide, by decide, fun H1 i1 r1' w1 u1 pen1 g1 g2 m1 m2 => ?_⟩)))))))
    refine rd_cons (rd_call (rd_cons (rd_var rfl (rd_cons (rd_op (rd_cb (rd_cons (rd_var rfl (rd_nil ⟨z, rfl, lz, rd_c ⟨_, _, rfl, rfl, rd_nil ⟨p, c, ns, i1, r1', _, rfl, pen1, by omega, by omega, by omega, fun H2 i2 r2' w2 u2 pen2 g3 g4 m3 m4 => rd_nil ⟨_, _, rfl, ?_⟩⟩⟩⟩)))))))))
    refine rd_sa (rd_call (rd_cons (rd_var rfl (rd_cons (rd_lst ?_)))))
    refine rd_cons (rd_c (rd_cons (rd_c (rd_cons (rd_c (rd_cons (rd_c (rd_cons (rd_c (rd_cons (rd_c ?_)))))))))))
    refine rd_cons (rd_c (rd_cons (rd_c (rd_cons (rd_c (rd_cons (rd_c (rd_cons (rd_c (rd_cons (rd_c (rd_nil ⟨by show 12 ≤ sizeLine; decide, fun l hl => ?_⟩))))))))))))
    have s3 := same_new (o := .lst ((["+", "-", "0", "1", "9", " ", "\n", "x", ".", "00", "401", ""] : List Str).map V.str)) (Same.refl H2) hl
    refine rd_nil ⟨p, c, l, ns, i2, r2', _, rfl, pen2.same s3, by omega, (ne_of_none pen2.pen hl).symm, upd_same, by show 1 ≤ 12; decide, by show 12 ≤ 1000; decide, fun H4 i4 r4 v u4 pen4 g5 g6 hv => ?_⟩
    obtain ⟨sg, rfl, ls, os⟩ : ∃ sg : Str, v = .str sg ∧ sg.length ≤ 3 ∧ okC (tl sg) := by
      have al : ∀ sg ∈ (["+", "-", "0", "1", "9", " ", "\n", "x", ".", "00", "401", ""] : List Str), sg.length ≤ 3 ∧ (tl sg).all (fun c => decide (c < 0x110000)) = true := by decide +kernel
      obtain ⟨sg, hm, rfl⟩ := List.mem_map.mp (show v ∈ ((["+", "-", "0", "1", "9", " ", "\n", "x", ".", "00", "401", ""] : List Str).map V.str) from hv)
      obtain ⟨a1, a2⟩ := al sg hm
      exact ⟨sg, rfl, a1, fun c hc => of_decide_eq_true (List.all_eq_true.mp a2 c hc)⟩
    have bH : But p H H4 := ((u1.trans u2).same s3).trans u4
    have kk : ∀ y : Str, y.length ≤ 3 * z.length + 3 → okC (tl y) → Q (.str y) H4 := fun y => k H4 i4 r4 y bH pen4 (by omega)
    have ca : ∀ lo hi, (cutS z lo hi).length ≤ z.length ∧ okC (tl (cutS z lo hi)) := fun lo hi => ⟨(cut_sub z lo hi).1, fun c hc => hok c ((cut_sub z lo hi).2 c hc)⟩
    have app : ∀ {a b : Str}, okC (tl a) → okC (tl b) → okC (tl (a ++ b)) := fun {a b} h1 h2 c hc => by
      rw [tl_append] at hc
      rcases List.mem_append.mp hc with e | e
      · exact h1 c e
      · exact h2 c e
    have la : ∀ a b : Str, (a ++ b).length = a.length + b.length := fun a b => Str.length_append a b
    have vr : ∀ {σ : SV} {H : Hp} {i : Nat} {v : V}, σ[i]? = some (some v) → ∀ Q : VK, Q v H → tVar i σ H Q := fun h Q q => rd_var h q
    have pl : ∀ {σ : SV} {H : Hp} {n : Int}, σ[3]? = some (some (.int w2)) → ∀ Q : VK, Q (.int (w2 + n)) H → tOp (rI0 fun i j => .int (i + j)) (tVar 3) (tC (.int n)) σ H Q := fun h Q q => rd_op (rd_var h (rd_c ⟨_, _, rfl, rfl, q⟩))
    have a1 := (ca none (some w2)).1
    have a2 := (ca (some (w2 + 1)) none).1
    have a3 := (ca (some w2) none).1
    have a4 := (ca (some (w2 + 2)) none).1
    have sl := sizeLine_eq
    refine rd_sif0 (rd_test (rd_op (rd_var rfl (rd_c ⟨rfl, _, rfl, ite2 (fun _ => ?_) (fun _ => ?_)⟩))))
    · refine rd_ret (rd_op (rd_sl1 (vr rfl) lz (vr rfl) (rd_sl2 (vr rfl) lz (pl rfl) ⟨_, _, rfl, rfl, by omega, kk _ ?_ (app (ca _ _).2 (ca _ _).2)⟩)))
      rw [la]
      omega
    refine rd_sif0 (rd_test (rd_op (rd_var rfl (rd_c ⟨rfl, _, rfl, ite2 (fun _ => ?_) (fun _ => ?_)⟩))))
    · refine rd_ret (rd_op (rd_op (rd_sl1 (vr rfl) lz (vr rfl) (rd_var rfl ⟨_, _, rfl, rfl, by omega, rd_sl2 (vr rfl) lz (vr rfl) ⟨_, _, rfl, rfl, by rw [la]; omega, kk _ ?_ (app (app (ca _ _).2 os) (ca _ _).2)⟩⟩))))
      rw [la, la]
      omega
    refine rd_sif0 (rd_test (rd_op (rd_var rfl (rd_c ⟨rfl, _, rfl, ite2 (fun _ => ?_) (fun _ => ?_)⟩))))
    · have l2 : (cutS (cutS z (some w2) none) none (some 2)).length ≤ 2 := by
        rw [len_tl, show (2 : Int) = ((2 : Nat) : Int) from rfl, cut_pre, List.length_take]
        omega
      refine rd_ret (rd_op (rd_op (rd_sl1 (vr rfl) lz (vr rfl) (rd_sl1 (w := 2) (fun Q q => rd_sl2 (vr rfl) lz (vr rfl) q) (by omega) (fun Q q => q) ⟨_, rfl, l2, fun y ly hy => ⟨_, _, rfl, rfl, by omega, rd_sl2 (vr rfl) lz (pl rfl) ⟨_, _, rfl, rfl, by rw [la]; omega, kk _ ?_ (app (app (ca _ _).2 ?_) (ca _ _).2)⟩⟩⟩))))
      · rw [la, la]
        omega
      · exact fun c hc => (ca (some w2) none).2 c ((cut_sub _ _ _).2 c (hy c hc))
    · refine rd_ret (rd_op (rd_op (rd_sl1 (vr rfl) lz (vr rfl) (rd_var rfl ⟨_, _, rfl, rfl, by omega, rd_sl2 (vr rfl) lz (pl rfl) ⟨_, _, rfl, rfl, by rw [la]; omega, kk _ ?_ (app (app (ca _ _).2 os) (ca _ _).2)⟩⟩))))
      rw [la, la]
      omega
end
end NB
namespace NB
open PySem L2 NumText TL ClX
theorem tl_int (f : Int) : tl (Str.ofString (toString f)) = intL f := by
  unfold intL
  split
  · rename_i h
    obtain ⟨n, rfl⟩ : ∃ n : Nat, f = Int.negSucc n := ⟨(-f - 1).toNat, by omega⟩
    have e : toString (Int.negSucc n) = "-" ++ toString ((((n + 1 : Nat)) : Int)) := rfl
    rw [tl_ofString, e]
    have t := tl_num (n + 1)
    rw [tl_ofString] at t
    rw [String.toList_append, List.map_append, t]
    rfl
  · rename_i h
    have e : f = ((f.natAbs : Nat) : Int) := by omega
    have t := tl_num f.natAbs
    rw [← e] at t
    exact t
theorem tl_stay (f u : Int) : tl (stayTxt f u) = intL f ++ 43 :: intL (u - f) := by
  have ep : tl (Str.ofString "+") = [43] := by decide +kernel
  unfold stayTxt
  rw [tl_append, tl_append, tl_append, tl_int, tl_int, ep]
  show ([] ++ intL f ++ [43]) ++ intL (u - f) = _
  simp
theorem told_is {z : Str} {f u : Int} (h : toldOf (tl z) = some (f, u)) : stayTxt f u = z := ext_tl ((tl_stay f u).trans (told_txt h).2)
theorem told_stay {f n : Int} (h1 : dayB f = true) (h2 : dayB (f + n) = true) (h3 : 1 ≤ n) (h4 : n ≤ 400) : toldOf (tl (stayTxt f (f + n))) = some (f, f + n) := by
  rw [tl_stay]
  have e : f + n - f = n := by omega
  rw [e]
  exact told_of h1 h2 h3 h4
theorem ok_tl {z : Str} (h : okC (tl z)) : PyData.strOk z = true := by
  unfold PyData.strOk
  rw [Array.all_eq_true_iff_forall_mem]
  intro x hx
  exact decide_eq_true (h x (by simpa [tl] using hx))
theorem intL_ok (f : Int) : okC (intL f) := fun c hc => by
  unfold intL at hc
  split at hc
  · rcases List.mem_cons.mp hc with e | e
    · omega
    · have := numL_digits _ c e
      omega
  · have := numL_digits _ c hc
    omega
theorem stay_okC (f u : Int) : okC (tl (stayTxt f u)) := fun c hc => by
  rw [tl_stay] at hc
  rcases List.mem_append.mp hc with e | e
  · exact intL_ok _ c e
  · rcases List.mem_cons.mp e with e | e
    · omega
    · exact intL_ok _ c e
theorem shaped_one {z : Str} (h : okC (tl z)) : SeqAt.shaped (.list [.str z]) = true := by
  have := ok_tl h
  simp [SeqAt.shaped, PyData.canLay0, PyData.canLayAll0, PyData.depth, PyData.depthAll, this]
/-- the class Stay, read -/
structure StR (P : Program) (w : World) (K : PySem.W.Frag) (mg : Str → Option Value) (base : Heap) (B Bt C : Addr) : Prop extends StE P w K mg base B C where
  strm : OwnMP P w K mg base CX0 1 C "__str__" (spSStr C)
  rdm : ∃ (mc : Value) (p g : Addr) (fd : FuncData), CRead K C mc ∧ CMet K C mc "read" p g ∧ FnOk P w K mg base (CX P w) 6 g fd ["cls", "text"] (spRead K C Bt) ∧ Binds K fd ["cls", "text"] [] ∧ KBn K fd ["cls", "text"] 1 ["text"] (fun us ws => us ++ ws.reverse) (fun vs zs => vs ++ zs.reverse)
  ks : PySem.W.kitOne K (.ref C) (.type "str") = some false
theorem FnOk.raw0 {P : Program} {w : World} {K : PySem.W.Frag} {mg : Str → Option Value} {base : Heap} {CX : CXT} {k : Nat} {f : Addr} {sp : Sp} {fd : FuncData} {ps : List Str} (F : FnOk P w K mg base CX k f fd ps sp) (hb : Binds K fd ps []) : FnR P w K mg base CX k f sp :=
  (FnOk.raw F hb .nil).imp fun vs H Q E h => by rw [List.append_nil]; exact h
abbrev tRd (K : PySem.W.Frag) (C Bt : Addr) (tv : TE) (E : XK) : TE := tCMeth C (spRead K C Bt) E (tC (.ref C)) (tCons tv tNil)
section
variable {P : Program} {w : World} {K : PySem.W.Frag} {mg : Str → Option Value} {base : Heap} {S B Bt C : Addr} {T : List (Addr × Str)} {tv : TE} {σ : SV} {H : Hp} {Q : VK}
/-- heard of a text -/
theorem rd_hR {z : Str} (tabs : LamX.Tabs T H) (hv : ∀ H (Q : VK), Q (.str z) H → tv σ H Q) (hz : z.length ≤ 600) (q1 : toldOf (tl z) = none → ∀ H' tt, LamX.ExtN H H' → LamX.Tabs T H' → H' tt = some (.tup [.int 0, .int 0]) → Q (.ref tt) H')
    (q2 : ∀ f u, toldOf (tl z) = some (f, u) → ∀ H' l, LamX.ExtN H H' → LamX.Tabs T H' → H' l = some (.lst [.str z]) → Q (.ref l) H') : LamX.tLam T (THeard Bt C) (tRd K C Bt tv) σ H Q := by
  refine ⟨tabs, fun H1 x1 tabs1 H2 s2 => ⟨rfl, rd_cons (hv _ _ (rd_nil ⟨.str z, rfl, .inl ⟨z, rfl, hz, fun e H3 dd s3 hdd => ⟨rfl, dd, _, .int 0, .int 0, rfl, hdd, rfl, rfl, fun H4 tt s4 ht => ?_⟩, fun f u e H3 a s3 ha => ⟨a, f, u, rfl, ha, fun H4 l s4 hl => ?_⟩⟩⟩))⟩⟩
  · have s := (s2.trans s3).trans s4
    exact q1 e H4 tt (x1.trans (LamX.ExtN.of s)) (tabs1.ext s) ht
  · have s := (s2.trans s3).trans s4
    rw [told_is e] at hl
    exact q2 f u e H4 l (x1.trans (LamX.ExtN.of s)) (tabs1.ext s) hl
/-- heard of what is no text -/
theorem rd_hN {v : V} (tabs : LamX.Tabs T H) (hv : ∀ H (Q : VK), Q v H → tv σ H Q) (ht : ∀ H1 H2, LamX.ExtN H H1 → Same H1 H2 → ∃ ty, TyX K H2 v ty ∧ PySem.W.kitOne K ty (.type "str") = some false)
    (q : ∀ H' tt, LamX.ExtN H H' → LamX.Tabs T H' → H' tt = some (.tup [.int 0, .int 0]) → Q (.ref tt) H') : LamX.tLam T (THeard Bt C) (tRd K C Bt tv) σ H Q := by
  refine ⟨tabs, fun H1 x1 tabs1 H2 s2 => ⟨rfl, rd_cons (hv _ _ (rd_nil ?_))⟩⟩
  obtain ⟨ty, h1, h2⟩ := ht H1 H2 x1 s2
  refine ⟨v, rfl, .inr ⟨ty, h1, h2, fun H3 dd s3 hdd => ⟨rfl, dd, _, .int 0, .int 0, rfl, hdd, rfl, rfl, fun H4 tt s4 ht => ?_⟩⟩⟩
  have s := (s2.trans s3).trans s4
  exact q H4 tt (x1.trans (LamX.ExtN.of s)) (tabs1.ext s) ht
end
end NB
namespace NB
open PySem L2 NumText TL ClX
theorem rd_sfor {wi : TI} {g : TG} {tb t2 : TS} {D : Ends} {σ : SV} {H : Hp} (h : wi σ H fun J H1 => ∃ W : Nat → Nat → L2.St → Hp → Prop, (∃ m, W 0 m σ H1) ∧ ∀ i m σ H, W i m σ H →
      (J.stop i H ∧ t2 D σ H) ∨ (J.go i H ∧ ∃ N : L2.St → Hp → Prop, (∀ σ' H', N σ' H' → ∃ m', m' < m ∧ W (i + 1) m' σ' H') ∧ ∀ x H', J.yld i H x H' → g x σ H' fun σ2 H2 => tb { D with nx := N, ct := N, bk := t2 D } σ2 H2)) : tSeq (tFor wi g tb) t2 D σ H := h
theorem zz_shaped : SeqAt.shaped (.tuple [.int 0, .int 0]) = true := by decide +kernel
/-- (0, 0) != (0, 0) -/
theorem rd_neZ {K : PySem.W.Frag} {σ : SV} {H : Hp} {tt : Addr} {QB : Bool → Hp → Prop} (ht : H tt = some (.tup [.int 0, .int 0])) (q : ∀ H', Same H H' → QB false H') :
    tTup (tCons (tC (.int 0)) (tCons (tC (.int 0)) tNil)) σ H (fun y H1 => rNeD K (.ref tt) y H1 fun x H' => ∃ k, x = .bl k ∧ QB k H') := by
  refine rd_tup (rd_cons (rd_c (rd_cons (rd_c (rd_nil ⟨by show 2 ≤ sizeLine; decide, fun t2 ht2 => ?_⟩)))))
  have s6 := same_new (o := .tup [.int 0, .int 0]) (Same.refl H) ht2
  refine ⟨.tuple [.int 0, .int 0], .tuple [.int 0, .int 0], .tup (.inl (.inl (s6 _ _ ht))) (.cons (.int _) (.cons (.int _) .nil)), .tup (.inl (.inl upd_same)) (.cons (.int _) (.cons (.int _) .nil)), zz_shaped, zz_shaped, false, ?_, q _ s6⟩
  rw [SeqAt.eqv_refl _ (SeqAt.canLay_of_shaped zz_shaped)]
  rfl
theorem ints_ne' {H : Hp} {L p c : Addr} {ys : List Str} {ns : List Int} {i r : Int} (h : H L = some (.lst (ys.map V.str))) (pen : Pen H p c ns i r) : L ≠ p := fun z => by
  rw [z, pen.pen] at h
  have y2 := congrArg (fun o => match o with | some (HO.lst (V.ref _ :: _)) => true | _ => false) h
  cases ys with
  | nil => cases y2
  | cons n ns => cases y2
section
variable {P : Program} {w : World} {K : PySem.W.Frag} {mg : Str → Option Value} {base : Heap} {S B Bt C : Addr}
abbrev sLaw : Stmt := top 26
abbrev nLaw : List Str := ["_law_script", "_law_pen_here", "_law_bound", "_law_turn", "_law_many", "_law_begin", "_law_made", "_law_line", "_law_told", "_law_bent_here", "_law_odd"]
theorem scLaw : FnScope nLaw ["_law_script"] (defScope sLaw) := ⟨rfl, rfl, rfl, by decide +kernel, rfl, by decide +kernel, by decide +kernel⟩
def spLaw (T : List (Addr × Str)) (K : PySem.W.Frag) : Sp := fun vs H Q _ => ∃ (a : Addr) (ns : List Int), vs = [.ref a] ∧ SqL K H a (ns.map V.int) ∧ ns.length ≤ 63 ∧ LamX.Tabs T H ∧ ∀ H', Q (.bl true) H'
theorem ok_law {fa ca ta : Addr} {fd : FuncData} {T : List (Addr × Str)} (F : FunC K "law" "law" sLaw fa ca fd) (Tb : Bi mg) (Sr : StR P w K mg base B Bt C) (Hd : Heard P w K mg base S Bt C)
    (De : DefOf P w K mg base "_law_pen" 1 ["_law_script"] (spPen K)) (Dd : DefOf P w K mg base "_law_draw" 1 ["_law_pen_here", "_law_many"] spDraw) (Dp : DefOf P w K mg base "_law_pick" 2 ["_law_pen_here", "_law_some"] spPick)
    (Dt : DefOf P w K mg base "_law_is_text" 4 ["_law_line"] spIt) (Db : DefOf P w K mg base "_law_bent" 3 ["_law_pen_here", "_law_line"] spBe)
    (TB : LamX.TabB base mg ca ta) (hmT : (ta, lamQ "law") ∈ T) (hu : ∀ p ∈ T, p.1 = ta → p.2 = lamQ "law") : FnG P w K mg base CX0 10 fa fd ["_law_script"] (spLaw T K) := by
  obtain ⟨fE, fdE, FE, mE, kE, bE⟩ := De.ex
  obtain ⟨fD, fdD, FD, mD, kD, bD⟩ := Dd.ex
  obtain ⟨fP, fdP, FP, mP, kP, bP⟩ := Dp.ex
  obtain ⟨fT, fdT, FT, mT, kT, bT⟩ := Dt.ex
  obtain ⟨fN, fdN, FN, mN, kN, bN⟩ := Db.ex
  obtain ⟨fI, fdI, M, FI, bI⟩ := Sr.ini
  obtain ⟨mc, pR, gR, fdR, cr, cm, FR, bR, kbR⟩ := Sr.rdm
  have FRr := FnOk.raw0 FR bR
  refine okGC F scLaw (fun vs H Q E h => ?_) (fun A outer s H vs Q E hr gd h => ?_)
  · obtain ⟨a, ns, rfl, _⟩ := h
    rfl
  · obtain ⟨a, ns, rfl, hS, hlen, tabs, k⟩ := h
    have r1 := hr.mono (show 1 ≤ 9 by decide)
    have r2 := hr.mono (show 2 ≤ 9 by decide)
    have r3 := hr.mono (show 3 ≤ 9 by decide)
    have r4 := hr.mono (show 4 ≤ 9 by decide)
    have r5 := hr.mono (show 5 ≤ 9 by decide)
    have r6 := hr.mono (show 6 ≤ 9 by decide)
    have r8 := hr.mono (show 8 ≤ 9 by decide)
    refine ⟨_, pss_cons (ps_par (i := 1) (j := 2) rfl scLaw.nd rfl rfl (by decide) rfl rfl (pa_cons (pe_call FE r1 rfl mE kE bE .nil pass0 (pa_cons (pv 0) pa_nil)) (pa_cons (pe_op op_sub (pe_op op_pow pe_int pe_int) pe_int) pa_nil)) (by rfl))
      (pss_cons (ps_for PassesOwn.never rfl (pi_range1 (by rfl) Tb.range (pa_cons pe_int pa_nil)) (pg_name (i := 3) scLaw.nd rfl (.inl rfl))
        (pss_cons (ps_set (i := 4) scLaw.nd rfl (.inl rfl) (pe_op op_add pe_int (pe_call FD r1 rfl mD kD bD .nil pass0 (pa_cons (pv 1) (pa_cons (pe_call FP r2 rfl mP kP bP .nil pass0 (pa_cons (pv 1) (pa_cons (pe_lst (pa_cons pe_int (pa_cons pe_int (pa_cons pe_int (pa_cons pe_int pa_nil))))) pa_nil))) pa_nil)))))
        (pss_cons (ps_set (i := 5) scLaw.nd rfl (.inl rfl) (pe_call FP r2 rfl mP kP bP .nil pass0 (pa_cons (pv 1) (pa_cons (pe_lst (pa_cons (pe_op op_sub (pe_call FD r1 rfl mD kD bD .nil pass0 (pa_cons (pv 1) (pa_cons pe_int pa_nil))) pe_int)
            (pa_cons (pe_op op_sub pe_int (pv 2)) (pa_cons (pe_op op_sub (pv 2) (pv 4)) (pa_cons (pe_op op_sub pe_int (pe_call FD r1 rfl mD kD bD .nil pass0 (pa_cons (pv 1) (pa_cons (pe_op op_pow pe_int pe_int) pa_nil)))) pa_nil))))) pa_nil))))
        (pss_cons (ps_par (i := 6) (j := 7) rfl scLaw.nd rfl rfl (by decide) rfl rfl (pa_cons (pe_make M FI r5 rfl Sr.mgC bI .nil passL (pa_cons (pv 5) (pa_cons (pe_op op_add (pv 5) (pv 4)) pa_nil)))
            (pa_cons (pe_op op_add_str (pe_op op_add_str (pe_callTy call_str_int (by rfl) Tb.str (by decide +kernel) (pa_cons (pv 5) pa_nil)) pe_str) (pe_callTy call_str_int (by rfl) Tb.str (by decide +kernel) (pa_cons (pv 4) pa_nil))) pa_nil)) (by rfl))
        (pss_cons (ps_if (PW.pt (pw_or (pt_cmpR op_ne (pe_callTy (call_strO Sr.strm.at_ r3 pass0) (by rfl) Tb.str (by decide +kernel) (pa_cons (pv 6) pa_nil)) (pv 7) (nomark _))
            (pw_or (pt_cmpR (op_neO Sr.eqm.at_ r2 pass0 Sr.ne Sr.cm) (pe_cmeth (pe_glob (v := .ref C) (by rfl) Sr.mgC rfl) cr cm FRr r6 passL (pa_cons (pv 7) pa_nil)) (pv 6) (nomark _))
            (pw_or1 (pt_cmpR (op_neO Sr.eqm.at_ r2 pass0 Sr.ne Sr.cm) (pe_cmethK (pe_glob (v := .ref C) (by rfl) Sr.mgC rfl) cr cm FR r6 kbR passL (pk_cons (pv 7) pk_nil)) (pv 6) (nomark _)))))) (pss_one (ps_ret pe_bl)) pss_nil)
        (pss_cons (ps_for PassesOwn.never rfl (pi_list (pe_lst (pa_cons (pe_call FN r3 rfl mN kN bN .nil pass0 (pa_cons (pv 1) (pa_cons (pv 7) pa_nil))) (pa_cons (pe_call FN r3 rfl mN kN bN .nil pass0 (pa_cons (pv 1) (pa_cons (pe_call FN r3 rfl mN kN bN .nil pass0 (pa_cons (pv 1) (pa_cons (pv 7) pa_nil))) pa_nil))) pa_nil)))) (pg_name (i := 9) scLaw.nd rfl (.inr rfl))
          (pss_one (ps_if (pt_cmpR (op_neD hr.units) (pe_heard (k := 6) (T := T) (t := tRd K C Bt (tVar 9)) Hd Tb (by rfl) TB rfl hmT hu r5 r8 (LamX.lamS_by (by show LamX.lamSB (defScope sLaw) _ = true; decide +kernel)) rfl (fun _ _ _ _ _ => rfl)
              (fun A' outer' s' H' E' f' c' hr' => pe_cmeth (pe_glob (v := .ref C) (by rfl) Sr.mgC rfl) cr cm FRr hr' (passes_call (takes_of rfl rfl rfl rfl) fun _ _ _ _ h => h) (pa_cons (pv 9) pa_nil)))
              (pe_ifExp (pt_val (pe_call FT r4 rfl mT kT bT .nil pass0 (pa_cons (pv 9) pa_nil))) (pe_lst (pa_cons (pv 9) pa_nil)) (pe_tup (pa_cons pe_int (pa_cons pe_int pa_nil)))) (nomark _)) (pss_one (ps_ret pe_bl)) pss_nil)))
        (pss_cons (ps_set (i := 10) scLaw.nd rfl (.inr rfl) (pe_call FP r2 rfl mP kP bP .nil pass0 (pa_cons (pv 1) (pa_cons (pe_lst (pa_cons pe_non (pa_cons pe_int (pa_cons pe_bl (pa_cons (pe_lst (pa_cons (pv 7) pa_nil)) (pa_cons (pe_tup (pa_cons (pv 7) pa_nil)) (pa_cons pe_dnewK (pa_cons pe_str (pa_cons pe_str (pa_cons (pv 6) (pa_cons (pe_op op_pow pe_int pe_int) pa_nil))))))))))) pa_nil))))
        (pss_one (ps_if (pt_cmpR (op_neD hr.units) (pe_heard (k := 6) (T := T) (t := tRd K C Bt (tVar 10)) Hd Tb (by rfl) TB rfl hmT hu r5 r8 (LamX.lamS_by (by show LamX.lamSB (defScope sLaw) _ = true; decide +kernel)) rfl (fun _ _ _ _ _ => rfl)
              (fun A' outer' s' H' E' f' c' hr' => pe_cmeth (pe_glob (v := .ref C) (by rfl) Sr.mgC rfl) cr cm FRr hr' (passes_call (takes_of rfl rfl rfl rfl) fun _ _ _ _ h => h) (pa_cons (pv 10) pa_nil)))
              (pe_tup (pa_cons pe_int (pa_cons pe_int pa_nil))) (nomark _)) (pss_one (ps_ret pe_bl)) pss_nil)))))))))
      (pss_cons (ps_set (i := 8) scLaw.nd rfl (.inl rfl) (pe_lst (pa_cons (pe_heard (k := 6) (T := T) (t := tRd K C Bt (tC (.str _))) Hd Tb (by rfl) TB rfl hmT hu r5 r8 (LamX.lamS_by (by show LamX.lamSB (defScope sLaw) _ = true; decide +kernel)) rfl (fun _ _ _ _ _ => rfl)
              (fun A' outer' s' H' E' f' c' hr' => pe_cmeth (pe_glob (v := .ref C) (by rfl) Sr.mgC rfl) cr cm FRr hr' (passes_call (takes_of rfl rfl rfl rfl) fun _ _ _ _ h => h) (pa_cons pe_str pa_nil))) pa_nil)))
      (pss_cons (ps_expr (pe_bm PySem.F.plainAttrs_list PySem.F.slot_list_append PySem.F.type_list_append mt_append (pv 8) (pa_cons (pe_heard (k := 6) (T := T) (t := tRd K C Bt (tC (.str _))) Hd Tb (by rfl) TB rfl hmT hu r5 r8 (LamX.lamS_by (by show LamX.lamSB (defScope sLaw) _ = true; decide +kernel)) rfl (fun _ _ _ _ _ => rfl)
              (fun A' outer' s' H' E' f' c' hr' => pe_cmeth (pe_glob (v := .ref C) (by rfl) Sr.mgC rfl) cr cm FRr hr' (passes_call (takes_of rfl rfl rfl rfl) fun _ _ _ _ h => h) (pa_cons pe_str pa_nil))) pa_nil)))
      (pss_cons (ps_expr (pe_bm PySem.F.plainAttrs_list PySem.F.slot_list_append PySem.F.type_list_append mt_append (pv 8) (pa_cons (pe_heard (k := 6) (T := T) (t := tRd K C Bt (tC (.str _))) Hd Tb (by rfl) TB rfl hmT hu r5 r8 (LamX.lamS_by (by show LamX.lamSB (defScope sLaw) _ = true; decide +kernel)) rfl (fun _ _ _ _ _ => rfl)
              (fun A' outer' s' H' E' f' c' hr' => pe_cmeth (pe_glob (v := .ref C) (by rfl) Sr.mgC rfl) cr cm FRr hr' (passes_call (takes_of rfl rfl rfl rfl) fun _ _ _ _ h => h) (pa_cons pe_str pa_nil))) pa_nil)))
      (pss_cons (ps_expr (pe_bm PySem.F.plainAttrs_list PySem.F.slot_list_append PySem.F.type_list_append mt_append (pv 8) (pa_cons (pe_heard (k := 6) (T := T) (t := tRd K C Bt (tC (.str _))) Hd Tb (by rfl) TB rfl hmT hu r5 r8 (LamX.lamS_by (by show LamX.lamSB (defScope sLaw) _ = true; decide +kernel)) rfl (fun _ _ _ _ _ => rfl)
              (fun A' outer' s' H' E' f' c' hr' => pe_cmeth (pe_glob (v := .ref C) (by rfl) Sr.mgC rfl) cr cm FRr hr' (passes_call (takes_of rfl rfl rfl rfl) fun _ _ _ _ h => h) (pa_cons pe_str pa_nil))) pa_nil)))
      (pss_one (ps_ret (pe_cmpR (op_eqD hr.units) (pv 8) (pe_lst (pa_cons (pe_tup (pa_cons pe_int (pa_cons pe_int pa_nil))) (pa_cons (pe_lst (pa_cons pe_str pa_nil)) (pa_cons (pe_tup (pa_cons pe_int (pa_cons pe_int pa_nil))) (pa_cons (pe_tup (pa_cons pe_int (pa_cons pe_int pa_nil))) pa_nil))))) (nomark _))))))))), ?_⟩
    refine rd_sp (rd_cons (rd_call (rd_cons (rd_var rfl (rd_nil ⟨a, ns, rfl, hS, hlen, fun H1 p c ms s1 _ pen1 => rd_cons (rd_op (rd_op (rd_c (rd_c ⟨_, _, rfl, rfl, ⟨by decide, by decide, by decide⟩, rd_c ⟨_, _, rfl, rfl, rd_nil ⟨_, _, rfl, ?_⟩⟩⟩))))⟩)))))
    have e12 : (10 : Int) ^ (12 : Int).toNat = 1000000000000 := by decide
    rw [e12]
    refine ⟨10, rfl, by decide, by decide, for_range (n := 10) (fun j σ H' => ∃ (x3 x4 x5 x6 x7 x8 x9 x10 : Option V) (n r : Int), σ = [some (.ref a), some (.ref p), some (.int (1000000000000 - 1)), x3, x4, x5, x6, x7, x8, x9, x10] ∧ Pen H' p c ms n r ∧ n ≤ 20 * j ∧ LamX.Tabs T H') ⟨_, _, _, _, _, _, _, _, 0, 0, rfl, pen1, by omega, tabs.ext s1⟩ ?_ ?_⟩
    · rintro j σ H2 hj ⟨x3, x4, x5, x6, x7, x8, x9, x10, n, r, rfl, pen2, hn, tabs2⟩
      refine rd_sa (rd_op (rd_c (rd_call (rd_cons (rd_var rfl (rd_cons (rd_call (rd_cons (rd_var rfl (rd_cons (rd_lst (rd_cons (rd_c (rd_cons (rd_c (rd_cons (rd_c (rd_cons (rd_c (rd_nil ⟨by show 4 ≤ sizeLine; decide, fun l hl => ?_⟩))))))))))))))))))))
      have s3 := same_new (o := .lst [.int 1, .int 9, .int 30, .int 400]) (Same.refl H2) hl
      refine rd_nil ⟨p, c, l, ms, n, r, _, rfl, pen2.same s3, by omega, (ne_of_none pen2.pen hl).symm, upd_same, by show 1 ≤ 4; decide, by show 4 ≤ 1000; decide, fun H3 n3 r3' v u3 pen3 g1 g2 hv => ?_⟩
      obtain ⟨mx, rfl, mx1, mx2⟩ : ∃ o : Int, v = .int o ∧ 1 ≤ o ∧ o ≤ 400 := by
        simp only [List.mem_cons, List.not_mem_nil, or_false] at hv
        rcases hv with rfl | rfl | rfl | rfl
        all_goals exact ⟨_, rfl, by omega, by omega⟩
      refine rd_nil ⟨p, c, ms, n3, r3', _, rfl, pen3, by omega, by omega, by omega, fun H4 n4 r4' m0 u4 pen4 g3 g4 m1 m2 => ⟨_, _, rfl, rfl, ?_⟩⟩
      refine rd_sa (rd_call (rd_cons (rd_var rfl (rd_cons (rd_lst (rd_cons (rd_op (rd_call (rd_cons (rd_var rfl (rd_cons (rd_c (rd_nil ⟨p, c, ms, n4, r4', _, rfl, pen4, by omega, by decide, by decide, fun H5 n5 r5' w1 u5 pen5 g5 g6 m3 m4 => rd_c ⟨_, _, rfl, rfl, ?_⟩⟩)))))))))))))
      refine rd_cons (rd_op (rd_c (rd_var rfl ⟨_, _, rfl, rfl, rd_cons (rd_op (rd_var rfl (rd_var rfl ⟨_, _, rfl, rfl, ?_⟩)))⟩)))
      refine rd_cons (rd_op (rd_c (rd_call (rd_cons (rd_var rfl (rd_cons (rd_op (rd_c (rd_c ⟨_, _, rfl, rfl, ⟨by decide, by decide, by decide⟩, rd_nil ⟨p, c, ms, n5, r5', _, rfl, pen5, by omega, by decide, by decide, fun H6 n6 r6' w2 u6 pen6 g7 g8 m5 m6 => ⟨_, _, rfl, rfl, rd_nil ⟨by show 4 ≤ sizeLine; decide, fun l2 hl2 => ?_⟩⟩⟩⟩)))))))))
      have e9 : (10 : Int) ^ (9 : Int).toNat = 1000000000 := by decide
      rw [e9] at m6
      have s7 := same_new (o := .lst [.int (w1 - 10), .int (0 - (1000000000000 - 1)), .int (1000000000000 - 1 - (1 + m0)), .int (0 - w2)]) (Same.refl H6) hl2
      refine rd_nil ⟨p, c, l2, ms, n6, r6', _, rfl, pen6.same s7, by omega, (ne_of_none pen6.pen hl2).symm, upd_same, by show 1 ≤ 4; decide, by show 4 ≤ 1000; decide, fun H7 n7 r7' v u7 pen7 g9 g10 hv => ?_⟩
      have ok : ∃ f, v = .int f ∧ StayOk f (f + (1 + m0)) := by
        simp only [List.mem_cons, List.not_mem_nil, or_false] at hv
        rcases hv with rfl | rfl | rfl | rfl
        all_goals
          refine ⟨_, rfl, ?_, ?_, by omega, by omega⟩
          · simp only [dayB, MD, Bool.and_eq_true, decide_eq_true_eq]
            omega
          · simp only [dayB, MD, Bool.and_eq_true, decide_eq_true_eq]
            omega
      obtain ⟨f, rfl, ok⟩ := ok
      have b7 : But p H2 H7 := (((((But.refl p H2).same s3).trans u3).trans u4).trans u5 |>.trans u6 |>.same s7).trans u7
      have tabs7 : LamX.Tabs T H7 := tabs_but b7 pen2.pen tabs2
      have my1 : 1 ≤ (1 + m0) := by omega
      have my2 : (1 + m0) ≤ 400 := by omega
      have d1 := ok.d1
      simp only [dayB, MD, Bool.and_eq_true, decide_eq_true_eq] at d1
      have fa1 : f.natAbs < 10 ^ 13 := Nat.lt_of_le_of_lt (show f.natAbs ≤ 999999999999 by omega) (by decide)
      have fa2 : (1 + m0).natAbs < 10 ^ 13 := Nat.lt_of_le_of_lt (show (1 + m0).natAbs ≤ 400 by omega) (by decide)
      have t1 := txt_le fa1
      have t2 := txt_le fa2
      have lp : (Str.ofString "+").length = 1 := rfl
      refine rd_sp (rd_cons (rd_make (rd_cons (rd_var rfl (rd_cons (rd_op (rd_var rfl (rd_var rfl ⟨_, _, rfl, rfl, rd_nil (mk_stay (fun _ H8 st s8 hst => ?_) (fun z e => by rw [stayBad_none ok] at e; cases e))⟩)))))))) 
      refine rd_cons (rd_op (rd_op (rd_cb (rd_cons (rd_var rfl (rd_nil ⟨f, rfl, log_lt fa1, rd_c ⟨_, _, rfl, rfl, by rw [lp, sizeLine_eq]; omega, rd_cb (rd_cons (rd_var rfl (rd_nil ⟨(1 + m0), rfl, log_lt fa2, _, _, rfl, rfl, by rw [Str.length_append, lp, sizeLine_eq]; omega, rd_nil ⟨_, _, rfl, ?_⟩⟩)))⟩⟩))))))
      have el : (Str.ofString (toString f) ++ Str.ofString "+") ++ Str.ofString (toString (1 + m0)) = stayTxt f (f + (1 + m0)) := by
        unfold stayTxt
        rw [Str.empty_append, show f + (1 + m0) - f = (1 + m0) by omega]
      have ll : (stayTxt f (f + (1 + m0))).length ≤ 29 := by
        rw [← el, Str.length_append, Str.length_append, lp]
        omega
      have lo : okC (tl (stayTxt f (f + (1 + m0)))) := stay_okC _ _
      have td := told_stay ok.d1 ok.d2 my1 my2
      obtain ⟨ln, hln⟩ : ∃ ln, ln = stayTxt f (f + (1 + m0)) := ⟨_, rfl⟩
      rw [← hln] at el ll lo td
      rw [el]
      have pen8 := pen7.same s8
      have tabs8 := tabs7.ext s8
      have rdo : ∀ {H : Hp} {E : XK} {Q : VK}, (∀ H' b, Same H H' → IsStay H' C b f (f + (1 + m0)) → Q (.ref b) H') → spRead K C Bt [.ref C, .str ln] H Q E := by
        intro H E Q q
        refine ⟨.str ln, rfl, .inl ⟨ln, rfl, by omega, ?_, ?_⟩⟩
        · intro e
          rw [td] at e
          cases e
        · intro f' u' e H' b s' hb
          rw [td] at e
          cases e
          exact q H' b s' hb
      refine rd_sif0 (rd_or (rd_test (rd_op (rd_cb (rd_cons (rd_var rfl (rd_nil (rd_strS hst ?_))))))))
      rw [← hln]
      refine rd_var rfl (ne_same (iteF ?_))
      refine rd_or (rd_test (rd_op ⟨rfl, rd_cons (rd_var rfl (rd_nil (rdo fun H9 b9 s9 hb9 => rd_var rfl (rd_neE Sr.toStE hb9 (hst.keep s9) rfl rfl ⟨_, rfl, iteF ?_⟩))))⟩))
      refine rd_test (rd_op ⟨rfl, rd_cons (rd_var rfl (rd_nil ⟨rfl, rdo fun H10 b10 s10 hb10 => rd_var rfl (rd_neE Sr.toStE hb10 (hst.keep (s9.trans s10)) rfl rfl ⟨_, rfl, iteF ?_⟩)⟩))⟩)
      have sA := s9.trans s10
      have hst10 := hst.keep sA
      have pen10 := pen8.same sA
      have tabs10 := tabs8.ext sA
      refine rd_sfor (rd_lst (rd_cons (rd_call (rd_cons (rd_var rfl (rd_cons (rd_var rfl (rd_nil ⟨p, c, ms, n7, r7', ln, rfl, pen10, by omega, by omega, lo, fun H11 n11 r11 y1 u11 pen11 g11 l1 o1 => ?_⟩))))))))
      refine rd_cons (rd_call (rd_cons (rd_var rfl (rd_cons (rd_call (rd_cons (rd_var rfl (rd_cons (rd_var rfl (rd_nil ⟨p, c, ms, n11, r11, ln, rfl, pen11, by omega, by omega, lo, fun H12 n12 r12 y2 u12 pen12 g12 l2' o2 => ?_⟩))))))))))
      refine rd_nil ⟨p, c, ms, n12, r12, y2, rfl, pen12, by omega, by omega, o2, fun H13 n13 r13 y3 u13 pen13 g13 l3 o3 => rd_nil ⟨by show 2 ≤ sizeLine; decide, fun lb hlb => ⟨lb, rfl, ⟨_, SqL.of upd_same⟩, ?_⟩⟩⟩
      have b13 : But p H10 H13 := (u11.trans u12).trans u13
      have hst13 := hst10.but b13 pen10
      have tabs13 : LamX.Tabs T H13 := tabs_but b13 pen10.pen tabs10
      have s14 := same_new (o := .lst [.str y1, .str y3]) (Same.refl H13) hlb
      have elb : upd H13 lb (.lst [.str y1, .str y3]) lb = some (.lst [.str y1, .str y3]) := upd_same
      have hst14 := hst13.keep s14
      have pen14 := pen13.same s14
      have tabs14 := tabs13.ext s14
      generalize upd H13 lb (.lst [.str y1, .str y3]) = H14 at s14 elb hst14 pen14 tabs14
      refine for_list (K := K) (a := lb) (xs := [.str y1, .str y3]) (D := { nx := _, rt := Q }) (fun i σ H' => ∃ (z3 y8 y9 y10 : Option V), σ = [some (.ref a), some (.ref p), some (.int (1000000000000 - 1)), z3, some (.int (1 + m0)), some (.int f), some (.ref st), some (.str ln), y8, y9, y10] ∧ Pen H' p c ms n13 r13 ∧ IsStay H' C st f (f + (1 + m0)) ∧ H' lb = some (.lst [.str y1, .str y3]) ∧ LamX.Tabs T H')
        ⟨_, _, _, _, rfl, pen14, hst14, elb, tabs14⟩ ?_ ?_ ?_
      · rintro i σ H' _ ⟨_, _, _, _, _, _, _, h, _⟩
        exact SqL.of h
      · rintro i x σ H15 hx ⟨z3, y8, y9, y10, rfl, pen15, hst15, elb15, tabs15⟩
        obtain ⟨y, rfl, ly, oy⟩ : ∃ y : Str, x = .str y ∧ y.length ≤ 600 ∧ okC (tl y) := by
          have mem := List.mem_of_getElem? hx
          simp only [List.mem_cons, List.not_mem_nil, or_false] at mem
          rcases mem with rfl | rfl
          · exact ⟨_, rfl, by omega, o1⟩
          · exact ⟨_, rfl, by omega, o3⟩
        refine rd_if0 (rd_test (rd_op (rd_hR tabs15 (fun _ _ q => ⟨_, rfl, q⟩) ly (fun e H16 tt x16 tabs16 htt => ?_) (fun f' u' e H16 l' x16 tabs16 hl' => ?_))))
        · refine rd_ifE (rd_b (rd_call (rd_cons (rd_var rfl (rd_nil ⟨y, rfl, ly, oy, fun H17 s17 => ⟨_, rfl, ?_⟩⟩)))))
          rw [isT_told, e]
          refine iteF (rd_neZ (s17 _ _ htt) fun H18 s18 => iteF ?_)
          have sE := s17.trans s18
          exact ⟨_, _, _, _, rfl, (pen15.extN x16).same sE, (hst15.extN x16).keep sE, sE _ _ (x16 _ _ elb15 (fun _ z => nomatch z)), tabs16.ext sE⟩
        · refine rd_ifE (rd_b (rd_call (rd_cons (rd_var rfl (rd_nil ⟨y, rfl, ly, oy, fun H17 s17 => ⟨_, rfl, ?_⟩⟩)))))
          rw [isT_told, e]
          refine iteT (rd_lst (rd_cons (rd_var rfl (rd_nil ⟨by show 1 ≤ sizeLine; decide, fun l5 hl5 => ?_⟩))))
          have s18 := same_new (o := .lst [.str y]) (Same.refl H17) hl5
          refine ⟨.list [.str y], .list [.str y], .lst (SqL.of ((s17.trans s18) _ _ hl')) (.cons (.str _) .nil), .lst (SqL.of upd_same) (.cons (.str _) .nil), shaped_one oy, shaped_one oy, false, ?_, iteF ?_⟩
          · rw [SeqAt.eqv_refl _ (SeqAt.canLay_of_shaped (shaped_one oy))]
            rfl
          · have sE := s17.trans s18
            exact ⟨_, _, _, _, rfl, (pen15.extN x16).same sE, (hst15.extN x16).keep sE, sE _ _ (x16 _ _ elb15 (fun _ z => nomatch z)), tabs16.ext sE⟩
      · rintro σ H15 ⟨z3, y8, y9, y10, rfl, pen15, hst15, elb15, tabs15⟩
        dsimp only
        refine ⟨_, rfl, rd_cons (rd_lst (rd_cons (rd_c (rd_cons (rd_c (rd_cons (rd_c ?_)))))))⟩
        refine rd_cons (rd_lst (rd_cons (rd_var rfl (rd_nil ⟨by show 1 ≤ sizeLine; decide, fun l1' hl1 => ?_⟩))))
        refine rd_cons (rd_tup (rd_cons (rd_var rfl (rd_nil ⟨by show 1 ≤ sizeLine; decide, fun t1' ht1 => ?_⟩))))
        refine rd_cons (fun d1' hd1 => ?_)
        refine rd_cons (rd_c (rd_cons (rd_c (rd_cons (rd_var rfl (rd_cons (rd_op (rd_c (rd_c ⟨_, _, rfl, rfl, ⟨by decide, by decide, by decide⟩, rd_nil ⟨by show 10 ≤ sizeLine; decide, fun l9 hl9 => ?_⟩⟩)))))))))
        have y1' := same_new (o := .lst [.str ln]) (Same.refl _) hl1
        have y2' := same_new (o := .tup [.str ln]) (Same.refl _) ht1
        have y3' := same_new (o := .dK []) (Same.refl _) hd1
        have y4' := same_new (o := .lst [.non, .int 0, .bl true, .ref l1', .ref t1', .ref d1', .str "", .str "+", .ref st, .int (10 ^ (20 : Int).toNat)]) (Same.refl _) hl9
        have sy := ((y1'.trans y2').trans y3').trans y4'
        have el1 := ((y2'.trans y3').trans y4') _ _ (upd_same (a := l1') (o := .lst [.str ln]))
        have et1 := (y3'.trans y4') _ _ (upd_same (a := t1') (o := .tup [.str ln]))
        have ed1 := y4' _ _ (upd_same (a := d1') (o := .dK []))
        have pen16 := pen15.same sy
        have nl9 : l9 ≠ p := (ne_of_none (((y1'.trans y2').trans y3') _ _ pen15.pen) hl9).symm
        refine rd_nil ⟨p, c, l9, ms, n13, r13, _, rfl, pen16, by omega, nl9, upd_same, by show 1 ≤ 10; decide, by show 10 ≤ 1000; decide, fun H17 n17 r17 v u17 pen17 g17 g18 hv => ?_⟩
        have hst17 := (hst15.keep sy).but u17 pen16
        have tabs17 : LamX.Tabs T H17 := tabs_but u17 pen16.pen (tabs15.ext sy)
        have f1 := u17 _ _ (ne_of el1 pen16.pen (fun z => by cases z)) el1
        have f2 := u17 _ _ (ne_of et1 pen16.pen (fun z => by cases z)) et1
        have f3 := u17 _ _ (ne_of ed1 pen16.pen (fun z => by cases z)) ed1
        have em1 : toldOf (tl (Str.ofString "")) = none := by decide +kernel
        have em2 : toldOf (tl (Str.ofString "+")) = none := by decide +kernel
        have key : ∀ {σ : SV} (Q' : VK), σ[10]? = some (some v) → (∀ H' tt, LamX.ExtN H17 H' → LamX.Tabs T H' → H' tt = some (.tup [.int 0, .int 0]) → Q' (.ref tt) H') → LamX.tLam T (THeard Bt C) (tRd K C Bt (tVar 10)) σ H17 Q' := by
          intro σ Q' hσ q
          have vr : ∀ (H : Hp) (Q : VK), Q v H → tVar 10 σ H Q := fun H Q q => ⟨v, hσ, q⟩
          simp only [List.mem_cons, List.not_mem_nil, or_false] at hv
          rcases hv with rfl | rfl | rfl | rfl | rfl | rfl | rfl | rfl | rfl | rfl
          · exact rd_hN tabs17 vr (fun _ _ _ _ => ⟨_, .base .non, kit_ty (by decide +kernel)⟩) q
          · exact rd_hN tabs17 vr (fun _ _ _ _ => ⟨_, .base (.int _), kit_ty (by decide +kernel)⟩) q
          · exact rd_hN tabs17 vr (fun _ _ _ _ => ⟨_, .base (.bl _), kit_ty (by decide +kernel)⟩) q
          · exact rd_hN tabs17 vr (fun _ _ x s => ⟨_, .base (.lst (s _ _ (x _ _ f1 (fun _ z => nomatch z)))), kit_ty (by decide +kernel)⟩) q
          · exact rd_hN tabs17 vr (fun _ _ x s => ⟨_, .base (.tup (s _ _ (x _ _ f2 (fun _ z => nomatch z)))), kit_ty (by decide +kernel)⟩) q
          · exact rd_hN tabs17 vr (fun _ _ x s => ⟨_, .base (.dK (s _ _ (x _ _ f3 (fun _ z => nomatch z)))), kit_ty (by decide +kernel)⟩) q
          · exact rd_hR tabs17 vr (by decide +kernel) (fun _ => q) (fun f' u' e => by rw [em1] at e; cases e)
          · exact rd_hR tabs17 vr (by decide +kernel) (fun _ => q) (fun f' u' e => by rw [em2] at e; cases e)
          · exact rd_hN tabs17 vr (fun _ _ x s => ⟨_, Sr.ty ((hst17.extN x).keep s), Sr.ks⟩) q
          · exact rd_hN tabs17 vr (fun _ _ _ _ => ⟨_, .base (.int _), kit_ty (by decide +kernel)⟩) q
        refine rd_if0 (rd_test (rd_op (key _ rfl fun H18 tt x18 tabs18 htt => rd_neZ htt fun H19 s19 => iteF ?_)))
        exact ⟨_, _, _, _, _, _, _, _, n17, r17, rfl, (pen17.extN x18).same s19, by omega, tabs18.ext s19⟩
    · rintro σ H2 ⟨x3, x4, x5, x6, x7, x8, x9, x10, n, r, rfl, pen2, hn, tabs2⟩
      dsimp only
      have no1 : toldOf (tl (Str.ofString "999999999999+1")) = none := by decide +kernel
      have no3 : toldOf (tl (Str.ofString "0+401")) = none := by decide +kernel
      have no4 : toldOf (tl (Str.ofString "3+0")) = none := by decide +kernel
      have ye2 : (toldOf (tl (Str.ofString "-999999999999+400"))).isSome = true := by decide +kernel
      refine rd_sa (rd_lst (rd_cons (rd_hR (z := "999999999999+1") tabs2 (fun _ _ q => q) (by decide +kernel) (fun _ H6 a1 x6' tabs6 ha1 => rd_nil ⟨by show 1 ≤ sizeLine; decide, fun L hL => ?_⟩) (fun f u e => by rw [no1] at e; cases e))))
      have s7 := same_new (o := .lst [.ref a1]) (Same.refl H6) hL
      have tabs7 := tabs6.ext s7
      have f1 := s7 _ _ ha1
      have eL : upd H6 L (.lst [.ref a1]) L = some (.lst [.ref a1]) := upd_same
      generalize upd H6 L (.lst [.ref a1]) = H7 at s7 tabs7 f1 eL
      refine rd_sdrop (rd_app rfl eL (rd_cons (rd_hR (z := "-999999999999+400") tabs7 (fun _ _ q => q) (by decide +kernel) (fun e => by rw [e] at ye2; cases ye2) (fun _ _ _ H8 a2 x8 tabs8 ha2 => rd_nil ⟨L, _, _, rfl, rfl, x8 _ _ eL (fun _ z => nomatch z), by show 1 < sizeLine; decide, ?_⟩))))
      have eL8 := x8 _ _ eL (fun _ z => nomatch z)
      have nb9 : ∀ b o, H8 b = some o → b ≠ L → upd H8 L (.lst ([.ref a1] ++ [.ref a2])) b = some o := fun b o e n => by rw [upd_ne n]; exact e
      have tabs9 := tabs_put (ys := ([.ref a1] ++ [.ref a2])) eL8 tabs8
      have f1 := nb9 _ _ (x8 _ _ f1 (fun _ z => nomatch z)) (ne_of f1 eL (fun z => by cases z))
      have n2L : a2 ≠ L := ne_of ha2 eL8 (fun z => by cases z)
      have f2 := nb9 _ _ ha2 n2L
      have eL : upd H8 L (.lst ([.ref a1] ++ [.ref a2])) L = some (.lst ([.ref a1] ++ [.ref a2])) := upd_same
      generalize upd H8 L (.lst ([.ref a1] ++ [.ref a2])) = H9 at nb9 tabs9 f1 f2 eL
      refine rd_sdrop (rd_app rfl eL (rd_cons (rd_hR (z := "0+401") tabs9 (fun _ _ q => q) (by decide +kernel) (fun _ H10 a3 x10 tabs10 ha3 => rd_nil ⟨L, _, _, rfl, rfl, x10 _ _ eL (fun _ z => nomatch z), by show 2 < sizeLine; decide, ?_⟩) (fun f u e => by rw [no3] at e; cases e))))
      have eL10 := x10 _ _ eL (fun _ z => nomatch z)
      have nb11 : ∀ b o, H10 b = some o → b ≠ L → upd H10 L (.lst (([.ref a1] ++ [.ref a2]) ++ [.ref a3])) b = some o := fun b o e n => by rw [upd_ne n]; exact e
      have tabs11 := tabs_put (ys := (([.ref a1] ++ [.ref a2]) ++ [.ref a3])) eL10 tabs10
      have f1 := nb11 _ _ (x10 _ _ f1 (fun _ z => nomatch z)) (ne_of f1 eL (fun z => by cases z))
      have f2 := nb11 _ _ (x10 _ _ f2 (fun _ z => nomatch z)) n2L
      have f3 := nb11 _ _ ha3 (ne_of ha3 eL10 (fun z => by cases z))
      have eL : upd H10 L (.lst (([.ref a1] ++ [.ref a2]) ++ [.ref a3])) L = some (.lst (([.ref a1] ++ [.ref a2]) ++ [.ref a3])) := upd_same
      generalize upd H10 L (.lst (([.ref a1] ++ [.ref a2]) ++ [.ref a3])) = H11 at nb11 tabs11 f1 f2 f3 eL
      refine rd_sdrop (rd_app rfl eL (rd_cons (rd_hR (z := "3+0") tabs11 (fun _ _ q => q) (by decide +kernel) (fun _ H12 a4 x12 tabs12 ha4 => rd_nil ⟨L, _, _, rfl, rfl, x12 _ _ eL (fun _ z => nomatch z), by show 3 < sizeLine; decide, ?_⟩) (fun f u e => by rw [no4] at e; cases e))))
      have eL12 := x12 _ _ eL (fun _ z => nomatch z)
      have nb13 : ∀ b o, H12 b = some o → b ≠ L → upd H12 L (.lst ((([.ref a1] ++ [.ref a2]) ++ [.ref a3]) ++ [.ref a4])) b = some o := fun b o e n => by rw [upd_ne n]; exact e
      have tabs13 := tabs_put (ys := ((([.ref a1] ++ [.ref a2]) ++ [.ref a3]) ++ [.ref a4])) eL12 tabs12
      have f1 := nb13 _ _ (x12 _ _ f1 (fun _ z => nomatch z)) (ne_of f1 eL (fun z => by cases z))
      have f2 := nb13 _ _ (x12 _ _ f2 (fun _ z => nomatch z)) n2L
      have f3 := nb13 _ _ (x12 _ _ f3 (fun _ z => nomatch z)) (ne_of f3 eL (fun z => by cases z))
      have f4 := nb13 _ _ ha4 (ne_of ha4 eL12 (fun z => by cases z))
      have eL : upd H12 L (.lst ((([.ref a1] ++ [.ref a2]) ++ [.ref a3]) ++ [.ref a4])) L = some (.lst [.ref a1, .ref a2, .ref a3, .ref a4]) := upd_same
      generalize upd H12 L (.lst ((([.ref a1] ++ [.ref a2]) ++ [.ref a3]) ++ [.ref a4])) = H13 at nb13 tabs13 f1 f2 f3 f4 eL
      refine rd_ret (rd_op (rd_var rfl (rd_lst ?_)))
      refine rd_cons (rd_tup (rd_cons (rd_c (rd_cons (rd_c (rd_nil ⟨by show 2 ≤ sizeLine; decide, fun e1 h1 => ?_⟩))))))
      refine rd_cons (rd_lst (rd_cons (rd_c (rd_nil ⟨by show 1 ≤ sizeLine; decide, fun e2 h2 => ?_⟩))))
      refine rd_cons (rd_tup (rd_cons (rd_c (rd_cons (rd_c (rd_nil ⟨by show 2 ≤ sizeLine; decide, fun e3 h3 => ?_⟩))))))
      refine rd_cons (rd_tup (rd_cons (rd_c (rd_cons (rd_c (rd_nil ⟨by show 2 ≤ sizeLine; decide, fun e4 h4 => ?_⟩))))))
      refine rd_nil ⟨by show 4 ≤ sizeLine; decide, fun m5 h5 => ?_⟩
      have w1 := same_new (o := .tup [.int 0, .int 0]) (Same.refl H13) h1
      have w2 := same_new (o := .lst [.str "-999999999999+400"]) (Same.refl _) h2
      have w3 := same_new (o := .tup [.int 0, .int 0]) (Same.refl _) h3
      have w4 := same_new (o := .tup [.int 0, .int 0]) (Same.refl _) h4
      have w5 := same_new (o := .lst [.ref e1, .ref e2, .ref e3, .ref e4]) (Same.refl _) h5
      have sw := (((w1.trans w2).trans w3).trans w4).trans w5
      have c1 := (((w2.trans w3).trans w4).trans w5) _ _ (upd_same (a := e1) (o := .tup [.int 0, .int 0]))
      have c2 := ((w3.trans w4).trans w5) _ _ (upd_same (a := e2) (o := .lst [.str "-999999999999+400"]))
      have c3 := (w4.trans w5) _ _ (upd_same (a := e3) (o := .tup [.int 0, .int 0]))
      have c4 := w5 _ _ (upd_same (a := e4) (o := .tup [.int 0, .int 0]))
      have pr : ∀ {H : Hp} {x : Addr}, H x = some (.tup [.int 0, .int 0]) → L2.Dp K H (.ref x) (.tuple [.int 0, .int 0]) := fun h => .tup (.inl (.inl h)) (.cons (.int _) (.cons (.int _) .nil))
      have ps : ∀ {H : Hp} {x : Addr}, H x = some (.lst [.str "-999999999999+400"]) → L2.Dp K H (.ref x) (.list [.str "-999999999999+400"]) := fun h => .lst (SqL.of h) (.cons (.str _) .nil)
      have sh4 : SeqAt.shaped (.list [.tuple [.int 0, .int 0], .list [.str "-999999999999+400"], .tuple [.int 0, .int 0], .tuple [.int 0, .int 0]]) = true := by decide +kernel
      have mk : ∀ {H : Hp} {M a1 a2 a3 a4 : Addr}, H M = some (.lst [.ref a1, .ref a2, .ref a3, .ref a4]) → H a1 = some (.tup [.int 0, .int 0]) → H a2 = some (.lst [.str "-999999999999+400"]) → H a3 = some (.tup [.int 0, .int 0]) → H a4 = some (.tup [.int 0, .int 0]) →
          L2.Dp K H (.ref M) (.list [.tuple [.int 0, .int 0], .list [.str "-999999999999+400"], .tuple [.int 0, .int 0], .tuple [.int 0, .int 0]]) := fun h h1 h2 h3 h4 => .lst (SqL.of h) (.cons (pr h1) (.cons (ps h2) (.cons (pr h3) (.cons (pr h4) .nil))))
      refine ⟨_, _, mk (sw _ _ eL) (sw _ _ f1) (sw _ _ f2) (sw _ _ f3) (sw _ _ f4), mk upd_same c1 c2 c3 c4, sh4, sh4, ?_⟩
      rw [SeqAt.eqv_refl _ (SeqAt.canLay_of_shaped sh4)]
      exact k _
end
end NB
namespace NB
open PySem L2 NumText TL ClX
abbrev biL : List Str := ["int", "len", "abs", "list", "range", "isinstance", "repr", "str", "tuple", "iter", "bool"]
def biB (K : PySem.W.Frag) (xs : List Str) : Bool := (biL ++ xs).all fun x => decide (PySem.W.nsIn K mainGlobals x = some none)
theorem biB_at {K : PySem.W.Frag} {h : Heap} {mg : Str → Option Value} {xs : List Str} (X : K.In h) (G : h.Ns mainGlobals mg) (b : biB K xs = true) : ∀ x ∈ biL ++ xs, mg x = none :=
  fun x hx => PySem.W.mg_none_of X G (of_decide_eq_true (List.all_eq_true.mp b x hx))
theorem biB_ok {K : PySem.W.Frag} {h : Heap} {mg : Str → Option Value} {xs : List Str} (X : K.In h) (G : h.Ns mainGlobals mg) (b : biB K xs = true) : Bi mg := by
  have key : ∀ x ∈ biL, mg x = none := fun x hx => biB_at X G b x (List.mem_append_left _ hx)
  exact ⟨key _ (by decide), key _ (by decide), key _ (by decide), key _ (by decide), key _ (by decide), key _ (by decide), key _ (by decide), key _ (by decide), key _ (by decide), key _ (by decide), key _ (by decide)⟩
def opsB (K : PySem.W.Frag) (C : Addr) : Bool :=
  decide (PySem.W.findIn K (.ref C) "__ne__" = some (some (.builtin "object.__ne__"))) && (PySem.W.notFirst K C (.ref C) && (decide (PySem.W.kitOne K (.ref C) (.type "str") = some false) && (PySem.W.readsIn K C (.type "type") && decide (PySem.W.specialIn K (.ref C) "__getattribute__" = some (some (.builtin "type.__getattribute__"))))))
/-- a classmethod -/
structure CmK (K : PySem.W.Frag) (C : Addr) (m qual : Str) (st : Stmt) (p f : Addr) (fd : FuncData) : Prop where
  cm : CMet K C (.type "type") m p f
  F : Fun K m qual st f fd
theorem cm_mk {K : PySem.W.Frag} {C : Addr} {m qual : Str} {st : Stmt} {p f : Addr} {rest : List Value} {oc kV doc pm cdv ct : Value} {od an : Option Addr} {osl : Array (Option Value)} (a0 : PySem.W.findIn K (.ref C) m = some (some (.ref p)))
    (r : PySem.W.recIn K p "classmethod" = some (.ref f :: rest)) (a : PySem.W.findCls K (.ref C) (.type "type") m = some (.get (.builtin "classmethod.__get__") (.ref p) .none (.ref C))) (fi : PySem.W.fnIn K f = true)
    (l : K.lookup f = some ⟨oc, od, .func (PySem.W.fnOf m qual (defArgs st) (defBody st) (defScope st) .none kV doc pm an cdv ct), osl⟩) (c : PySem.W.codeIn K cdv qual = true) (k : PySem.W.keepIn K (.ref f) = true) :
    CmK K C m qual st p f (PySem.W.fnOf m qual (defArgs st) (defBody st) (defScope st) .none kV doc pm an cdv ct) := ⟨⟨a, ⟨rest, r⟩, fi⟩, fun_mk l c k⟩
section
variable {l : PySem.W.OpenLaw} {w : World} {K : PySem.W.Frag} {h : Heap} {mg : Str → Option Value} {fa S B Bt C fB fT f1 p2 f2 f10 f11 aI aB aD aC aE aO aP aW aK aH aU aX aN fL cL tL : Addr} {fdB fdT fd1 fd2 fd10 fd11 hI hB hD hC hE hO hP hW hK hH hU hX hN gL : FuncData} {tM tN tF : Tok}
theorem all16 (X : K.In h) (G : h.Ns mainGlobals mg) (hmg : mg "law" = some (.ref fa)) (eB : ErrK K "BadStay" "BadStay.__init__" sIBadStay ["part"] B fB fdB) (eT : ErrK K "BadText" "BadText.__init__" sIBadText ["line", "word"] Bt fT fdT) (nS : PySem.W.nsIn K mainGlobals "StayError" = some (some (.ref S)))
    (eS : PySem.W.exmOne K (.ref Bt) (.ref S) = some true) (kB : PySem.W.kitOne K (.ref Bt) (.ref Bt) = some true) (nC : PySem.W.nsIn K mainGlobals "Stay" = some (some (.ref C))) (cB : clsB K C ["first", "after", "nights"] = true) (oB : opsB K C = true)
    (m1 : MethK K C "__init__" "Stay.__init__" (sStay 1) f1 fd1) (m2 : CmK K C "read" "Stay.read" sRead p2 f2 fd2) (m10 : MethK K C "__eq__" "Stay.__eq__" (sStay 10) f10 fd10) (m11 : MethK K C "__str__" "Stay.__str__" (sStay 11) f11 fd11)
    (dI : DefK K "is_integer" sIsInt aI hI) (dB : DefK K "is_between" sBetw aB hB) (dD : DefK K "is_day" sDay aD hD) (dC : DefK K "count_in" sCnt aC hC) (dE : DefK K "day_in" sDin aE hE) (dO : DefK K "stay_told" sTold aO hO) (dP : DefK K "_law_pen" sPen aP hP) (dW : DefK K "_law_draw" sDraw aW hW) (dK : DefK K "_law_pick" sPick aK hK)
    (dH : DefK K "_law_heard" sHeard aH hH) (dU : DefK K "_law_is_count" sIc aU hU) (dX : DefK K "_law_is_text" sIt aX hX) (dN : DefK K "_law_bent" sBe aN hN) (dL : DefKC K "law" sLaw fL cL gL)
    (mM : mg "MOST_DAY" = some (.int MD tM)) (mF : mg "FIGURES" = some (.str FIG tF)) (mN : PySem.W.nsIn K mainGlobals "MOST_NIGHTS" = some (some (.int 400 tN))) (bB : biB K ["all"] = true)
    (c1 : PySem.W.codeHdIn K cL tL = true) (n1 : K.lookup tL = none) (e1 : h.get? tL = some { cls := .none, data := .fields #[] }) :
    LawAtG l w K 10 63 "_law_script" mg fa h := by
  have Tb := biB_ok X G bB
  have mA : mg "all" = none := biB_at X G bB _ (by simp)
  have efa : fa = fL := by
    have z := PySem.W.mg_of X G dL.ns
    rw [hmg] at z
    injection (Option.some.inj z)
  subst efa
  have ck := clsB_ok cB
  unfold opsB at oB
  simp only [Bool.and_eq_true, decide_eq_true_eq] at oB
  obtain ⟨o1, o2, o3, o4, o5⟩ := oB
  have stc : StC K C := ⟨ck.cl, ck.nf _ (by decide), ck.nf _ (by decide), ck.nf _ (by decide)⟩
  have kw2 : KBn K fd2 ["cls", "text"] 1 ["text"] (fun us ws => us ++ ws.reverse) (fun vs zs => vs ++ zs.reverse) := by
    obtain ⟨oc, od, kV, doc, pm, an, cdv, ct, osl, rfl, _, _⟩ := m2.F.ex
    refine ⟨fun s us ws _ l1 l2 => ?_, fun r1 r2 => r1.append (vals_rev r2)⟩
    match us, l1, ws, l2 with
    | [_], _, [_], _ => exact .of_eq rfl
  refine ⟨gL, [(cL, tL)], spLaw [(tL, lamQ "law")] K, ?_, ?_, ?_, ?_, ?_, ?_⟩
  · intro p hp
    simp only [List.mem_cons, List.not_mem_nil, or_false] at hp
    subst hp
    exact e1
  · intro p hp
    simp only [List.mem_cons, List.not_mem_nil, or_false] at hp
    subst hp
    exact n1
  · intro p hp
    simp only [List.mem_cons, List.not_mem_nil, or_false] at hp
    subst hp
    exact PySem.W.codeHd_of_K X c1
  · obtain ⟨oc, od, kV, doc, pm, an, ct, osl, rfl, _, _⟩ := dL.F.ex
    exact fun s u => .of_eq rfl
  · intro H a ns hl hT hS
    refine ⟨a, ns, rfl, hS, hl, fun p hp => ?_, fun _ => rfl⟩
    simp only [List.mem_cons, List.not_mem_nil, or_false] at hp
    subst hp
    exact LamX.TabS.nil (hT (cL, tL) (by simp))
  · intro base KB GB TB
    have tb1 := TB (cL, tL) (by simp)
    have DI : DefOf l.prog w K mg base "is_integer" 1 ["value"] (spIsInt K) := dI.of X G (ok_isint dI.F Tb) (dI.F.binds (fun _ _ _ _ _ _ us hl => match us, hl with | [_], _ => rfl))
    have DB : DefOf l.prog w K mg base "is_between" 2 ["value", "low", "high"] (spBetw K) := dB.of X G (ok_betw dB.F DI) (dB.F.binds (fun _ _ _ _ _ _ us hl => match us, hl with | [_, _, _], _ => rfl))
    have DD : DefOf l.prog w K mg base "is_day" 3 ["value"] (spDay K) := dD.of X G (ok_day dD.F mM DB) (dD.F.binds (fun _ _ _ _ _ _ us hl => match us, hl with | [_], _ => rfl))
    have DC : DefOf l.prog w K mg base "count_in" 1 ["word", "most"] spCnt := dC.of X G (ok_cnt dC.F Tb mA mF) (dC.F.binds (fun _ _ _ _ _ _ us hl => match us, hl with | [_, _], _ => rfl))
    have DE : DefOf l.prog w K mg base "day_in" 2 ["word"] spDin := dE.of X G (ok_din dE.F DC) (dE.F.binds (fun _ _ _ _ _ _ us hl => match us, hl with | [_], _ => rfl))
    have DO : DefOf l.prog w K mg base "stay_told" 4 ["text"] spTold := dO.of X G (ok_told dO.F (PySem.W.mg_of X G mN) DC DE DD) (dO.F.binds (fun _ _ _ _ _ _ us hl => match us, hl with | [_], _ => rfl))
    have DP : DefOf l.prog w K mg base "_law_pen" 1 ["_law_script"] (spPen K) := dP.of X G (ok_pen dP.F Tb) (dP.F.binds (fun _ _ _ _ _ _ us hl => match us, hl with | [_], _ => rfl))
    have DW : DefOf l.prog w K mg base "_law_draw" 1 ["_law_pen_here", "_law_many"] spDraw := dW.of X G (ok_draw dW.F Tb) (dW.F.binds (fun _ _ _ _ _ _ us hl => match us, hl with | [_, _], _ => rfl))
    have DK : DefOf l.prog w K mg base "_law_pick" 2 ["_law_pen_here", "_law_some"] spPick := dK.of X G (ok_pick dK.F Tb DW) (dK.F.binds (fun _ _ _ _ _ _ us hl => match us, hl with | [_, _], _ => rfl))
    have DU : DefOf l.prog w K mg base "_law_is_count" 3 ["_law_word", "_law_figures"] spIc := dU.of X G (ok_ic dU.F Tb) (dU.F.binds (fun _ _ _ _ _ _ us hl => match us, hl with | [_, _], _ => rfl))
    have DX : DefOf l.prog w K mg base "_law_is_text" 4 ["_law_line"] spIt := dX.of X G (ok_it dX.F Tb DU) (dX.F.binds (fun _ _ _ _ _ _ us hl => match us, hl with | [_], _ => rfl))
    have DN : DefOf l.prog w K mg base "_law_bent" 3 ["_law_pen_here", "_law_line"] spBe := dN.of X G (ok_be dN.F Tb DW DK) (dN.F.binds (fun _ _ _ _ _ _ us hl => match us, hl with | [_, _], _ => rfl))
    have okB := okIBadStay (P := l.prog) (w := w) (mg := mg) (base := base) eB.F eB.oex (eB.nf _ (by decide))
    have Bd : Bad l.prog w K mg base "BadStay" B := ⟨PySem.W.mg_of X G eB.ns, eB.oex, eB.nf _ (by decide), fB, fdB, eB.iC, eB.tI, okB.1, okB.2⟩
    have okT := okIBadText (P := l.prog) (w := w) (mg := mg) (base := base) eT.F eT.oex (eT.nf _ (by decide)) (eT.nf _ (by decide))
    have Bdt : BadT l.prog w K mg base Bt := ⟨PySem.W.mg_of X G eT.ns, eT.oex, eT.nf _ (by decide), eT.nf _ (by decide), fT, fdT, eT.iC, eT.tI, okT.1, okT.2⟩
    have ini : FnOk l.prog w K mg base (CX l.prog w) 4 f1 fd1 ["self", "first", "after"] (spSInit K B C) := ok_sinit m1.F Tb (PySem.W.mg_of X G mN) stc Bd DD
    have std : StD l.prog w K mg base B C := ⟨stc, PySem.W.mg_of X G nC, ⟨f1, fd1, ⟨ck.mk_, m1.at_, m1.fn, ck.kp⟩, ini, m1.F.binds (fun _ _ _ _ _ _ us hl => match us, hl with | [_, _, _], _ => rfl)⟩, ck.ca, ck.cn, ck.ct, ck.cm, ck.kc⟩
    have ste : StE l.prog w K mg base B C := { std with
      eqm := ⟨f10, fd10, ["self", "other"], ok_seq m10.F Tb std, m10.F.binds (fun _ _ _ _ _ _ us hl => match us, hl with | [_, _], _ => rfl), m10.at_, m10.fn⟩
      ne := o1
      nf := o2 }
    have str : StR l.prog w K mg base B Bt C := { ste with
      strm := ⟨f11, fd11, ["self"], ok_sstr m11.F Tb stc, m11.F.binds (fun _ _ _ _ _ _ us hl => match us, hl with | [_], _ => rfl), m11.at_, m11.fn⟩
      rdm := ⟨.type "type", p2, f2, fd2, ⟨o4, o5⟩, m2.cm, ok_read m2.F Tb std Bdt DO, m2.F.binds (fun _ _ _ _ _ _ us hl => match us, hl with | [_, _], _ => rfl), kw2⟩
      ks := o3 }
    have hd : Heard l.prog w K mg base S Bt C := ⟨⟨aH, hH, dH.F, PySem.W.mg_of X G dH.ns⟩, PySem.W.mg_of X G nS, PySem.W.mg_of X G eT.ns, eS, kB, eT.ec, eT.xf, eT.nf _ (by decide), eT.nf _ (by decide), str.strm⟩
    exact ok_law dL.F Tb str hd DP DW DK DX DN tb1 (by simp) (fun p hp e => by
        simp only [List.mem_cons, List.not_mem_nil, or_false] at hp
        subst hp
        rfl)
end
end NB
open PySem PySem.W PyProof.Rows in
set_option maxRecDepth 100000 in
set_option maxHeartbeats 0 in
theorem PySem.Challenge.cw_nodeadnight_k16_texts_of_stays_holds : PySem.Challenge.rw_nodeadnight_k16_texts_of_stays.Holds := by
  w_on; o_law; k_head; (case hw => w_witness2)
  k_fill
  refine NB.walk_ofTG (l := PySem.Challenge.rw_nodeadnight_k16_texts_of_stays) (n := 63) (k := 10) (x := "_law_script") rfl (by decide) rfl ⟨rfl, by decide, by decide⟩ (fun w h Y => PySem.W.km_in_of Y) ?F
  case F =>
    intro w mg fa h Y KX G hmg
    refine' NB.all16 (tL := 267) KX G hmg ?eB ?eT ?nS ?eS ?kB ?nC ?cB ?oB ?m1 ?m2 ?m10 ?m11 ?dI ?dB ?dD ?dC ?dE ?dO ?dP ?dW ?dK ?dH ?dU ?dX ?dN ?dL (PySem.W.mg_of KX G ?mM) (PySem.W.mg_of KX G ?mF) ?mN ?bB ?h1 ?n1 (PySem.W.km_tabs_of Y 267 (by simp))
    (case eB => (refine' NB.err_mk ?a ?l ?r ?i ?t ?l2 ?c2 ?k2 ?b; (case a => k_is); (case l => k_is); (case r => rfl); (case i => k_is); (case t => k_is); (case l2 => k_is); (case c2 => k_is); (case k2 => k_is); (case b => kernel_rfl)))
    (case eT => (refine' NB.err_mk ?a ?l ?r ?i ?t ?l2 ?c2 ?k2 ?b; (case a => k_is); (case l => k_is); (case r => rfl); (case i => k_is); (case t => k_is); (case l2 => k_is); (case c2 => k_is); (case k2 => k_is); (case b => kernel_rfl)))
    (case nS => k_is)
    (case eS => kernel_rfl)
    (case kB => kernel_rfl)
    (case nC => k_is)
    (case cB => kernel_rfl)
    (case oB => kernel_rfl)
    (case m1 => (refine' NB.meth_mk ?a ?l ?c ?k ?n; (case a => k_is); (case l => k_is); (case c => k_is); (case k => k_is); (case n => k_is)))
    (case m2 => (refine' NB.cm_mk ?a0 ?r ?a ?fi ?l ?c ?k; (case a0 => k_is); (case r => k_is); (case a => kernel_rfl); (case fi => kernel_rfl); (case l => k_is); (case c => k_is); (case k => k_is)))
    (case m10 => (refine' NB.meth_mk ?a ?l ?c ?k ?n; (case a => k_is); (case l => k_is); (case c => k_is); (case k => k_is); (case n => k_is)))
    (case m11 => (refine' NB.meth_mk ?a ?l ?c ?k ?n; (case a => k_is); (case l => k_is); (case c => k_is); (case k => k_is); (case n => k_is)))
    (case dI => (refine' NB.def_mk ?a ?l ?c ?k; (case a => k_is); (case l => k_is); (case c => k_is); (case k => k_is)))
    (case dB => (refine' NB.def_mk ?a ?l ?c ?k; (case a => k_is); (case l => k_is); (case c => k_is); (case k => k_is)))
    (case dD => (refine' NB.def_mk ?a ?l ?c ?k; (case a => k_is); (case l => k_is); (case c => k_is); (case k => k_is)))
    (case dC => (refine' NB.def_mk ?a ?l ?c ?k; (case a => k_is); (case l => k_is); (case c => k_is); (case k => k_is)))
    (case dE => (refine' NB.def_mk ?a ?l ?c ?k; (case a => k_is); (case l => k_is); (case c => k_is); (case k => k_is)))
    (case dO => (refine' NB.def_mk ?a ?l ?c ?k; (case a => k_is); (case l => k_is); (case c => k_is); (case k => k_is)))
    (case dP => (refine' NB.def_mk ?a ?l ?c ?k; (case a => k_is); (case l => k_is); (case c => k_is); (case k => k_is)))
    (case dW => (refine' NB.def_mk ?a ?l ?c ?k; (case a => k_is); (case l => k_is); (case c => k_is); (case k => k_is)))
    (case dK => (refine' NB.def_mk ?a ?l ?c ?k; (case a => k_is); (case l => k_is); (case c => k_is); (case k => k_is)))
    (case dH => (refine' NB.def_mk ?a ?l ?c ?k; (case a => k_is); (case l => k_is); (case c => k_is); (case k => k_is)))
    (case dU => (refine' NB.def_mk ?a ?l ?c ?k; (case a => k_is); (case l => k_is); (case c => k_is); (case k => k_is)))
    (case dX => (refine' NB.def_mk ?a ?l ?c ?k; (case a => k_is); (case l => k_is); (case c => k_is); (case k => k_is)))
    (case dN => (refine' NB.def_mk ?a ?l ?c ?k; (case a => k_is); (case l => k_is); (case c => k_is); (case k => k_is)))
    (case dL => (refine' NB.defC_mk ?a ?l ?c ?k; (case a => k_is); (case l => k_is); (case c => k_is); (case k => k_is)))
    (case mM => k_is)
    (case mF => k_is)
    (case mN => k_is)
    (case bB => kernel_rfl)
    (case h1 => kernel_rfl)
    (case n1 => kernel_rfl)
#print axioms PySem.Challenge.cw_nodeadnight_k16_texts_of_stays_holds
