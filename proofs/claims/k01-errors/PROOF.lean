import PyProof.Rows.All
import Wide.All
import OpenK.AllK
import Wide.FinOn
import HandS.ForMost
import HandS.ExcInit
import HandS.ExcField
import HandS.IsInst
import HandS.Defaults
import HandS.MakeKw
import HandS.MakeKwOnly
import HandS.ExcIs
import HandS.ExcValue
import KE.KExcIs
import HandS.Wide
import HandS.Codes
import KE.KxIndex
import HandS.Style
import PySem.Challenge.RW_nodeadnight_k01_errors_and_their_fields
set_option Elab.async false
set_option linter.all false
set_option maxRecDepth 100000
set_option maxHeartbeats 4000000
/-! NBa: defs that may show containers (repr): a promise over the surroundings in which nothing is being shown. -/
namespace NB
open PySem PySem.Spec PyProof.Rows L2

/-- the promise of a def where no repr is under way -/
structure FnG (P : Program) (w : World) (K : PySem.W.Frag) (mg : Str → Option Value) (base : Heap)
    (CX : CXT) (k : Nat) (f : Addr) (fd : FuncData) (ps : List Str) (sp : Sp) : Prop where
  len : ∀ vs H Q E, sp vs H Q E → vs.length = ps.length
  run : ∀ (A : Around) (outer : List Env) (s : Shared) (H : Hp) (args : Args) (us : List Value) (vs : List V) (Q : VK) (E : XK),
    Room k A → A.guards = some [] → Env0 P w K mg base A outer s H → BindsTo s fd args (ps.zip us) →
    Vals vs us → sp vs H Q E → codeAny (model P w) A (.call (.ref f) args) (CR CX outer P w H s Q E) s

section
variable {CX : CXT} {P : Program} {w : World} {K : PySem.W.Frag} {mg : Str → Option Value} {base : Heap}
theorem FnG.of {k : Nat} {f : Addr} {fd : FuncData} {ps : List Str} {sp : Sp} (F : FnOk P w K mg base CX k f fd ps sp) :
    FnG P w K mg base CX k f fd ps sp :=
  ⟨F.len, fun A o s H ar us vs Q E hr _ => F.run A o s H ar us vs Q E hr⟩

theorem fnG_of {k : Nat} {f : Addr} {name qual : Str} {params : Arguments} {body : List Stmt} {scope : Scope}
    {dV kV doc pm cdv ct oc : Value} {an od : Option Addr} {osl : Array (Option Value)} {N ps : List Str} {sp : Sp}
    (lk : K.lookup f = some ⟨oc, od, .func (PySem.W.fnOf name qual params body scope dV kV doc pm an cdv ct), osl⟩)
    (hcd : PySem.W.codeIn K cdv qual = true) (S : FnScope N ps scope)
    (len : ∀ vs H Q E, sp vs H Q E → vs.length = ps.length)
    (hbody : ∀ (A : Around) (outer : List Env) (s : Shared) (H : Hp) (vs : List V) (Q : VK) (E : XK),
      Room k (A.deeper (envOfC qual scope s.heap.objs.size f cdv)) → A.guards = some [] → sp vs H Q E →
      ∃ t, PSs (cxOf CX P w K mg base N qual scope f cdv A outer s H E) body t ∧
        t { nx := fun _ H' => Q .non H', rt := Q } (start N vs) H) :
    FnG P w K mg base CX (k + 1) f (PySem.W.fnOf name qual params body scope dV kV doc pm an cdv ct) ps sp := by
  refine ⟨len, ?_⟩
  intro A outer s H args us vs Q E room gd env bd rel hsp
  have inK : K.In s.heap := env.mod.kin.keeps (fun b o e => (env.bs b o e).1)
  have noLim : s.heap.NoLimit := env.mod.nolimit.keeps (fun b o e => (env.bs b o e).1)
  have kinds : ∀ y ∈ ps.zip us, scope.names.lookup y.1 = some .local ∨
      (scope.names.lookup y.1 = some .cell ∧
        ((cellsFrom (s.heap.objs.size + 1) scope.names []).lookup y.1).isSome = true) := by
    rintro ⟨n, v⟩ hy
    rcases S.par n (List.of_mem_zip hy).1 with z | z
    · exact Or.inl z
    · exact Or.inr ⟨z, PySem.W.cellsFrom_some _ _ _ (Or.inl z)⟩
  refine codeAny_call_function room.depth (inK _ _ lk) rfl S.co S.gen rfl (PySem.W.codeRec_of inK hcd)
    (bd _ _ _ _ (wpAny_newFunctionEnv_cells S.kind kinds fun env' he s1 x => ?_))
  subst he
  refine ⟨noLim.keeps x.toInCall.keep, codeAny_func ?_⟩
  obtain ⟨t, ht, hq⟩ := hbody A outer s H vs Q E (room.deeper _) gd hsp
  have I0 := inv_start (CX := CX) (E := E) S room.hd env (len _ _ _ _ hsp) rel x
  refine wpAny_mono (ht.run [] s1 (start N vs) H _ I0 hq) ?_ (fun e s' z => z)
  intro fl s' hs
  match fl, hs with
  | .ret u, ⟨v, σ', H', J, rv, q⟩ => exact ⟨v, H', J.os, J.bare, J.base, J.hok, rv, q⟩
  | .next, ⟨σ', H', J, q⟩ => exact ⟨V.non, H', J.os, J.bare, J.base, J.hok, rfl, q⟩
  | .brk, ⟨_, _, _, q⟩ => exact q.elim
  | .cont, ⟨_, _, _, q⟩ => exact q.elim

theorem okG {x qual : Str} {st : Stmt} {f : Addr} {fd : FuncData} {N ps : List Str} {k : Nat} {sp : Sp}
    (F : Fun K x qual st f fd) (S : FnScope N ps (defScope st)) (len : ∀ vs H Q E, sp vs H Q E → vs.length = ps.length)
    (hbody : ∀ (cdv : Value) (A : Around) (outer : List Env) (s : Shared) (H : Hp) (vs : List V) (Q : VK) (E : XK),
      Room k (A.deeper (envOfC qual (defScope st) s.heap.objs.size f cdv)) →
      (A.deeper (envOfC qual (defScope st) s.heap.objs.size f cdv)).guards = some [] → sp vs H Q E →
      ∃ t, PSs (cxOf CX0 P w K mg base N qual (defScope st) f cdv A outer s H E).nox (defBody st) t ∧
        t { nx := fun _ H' => Q .non H', rt := Q } (start N vs) H) :
    FnG P w K mg base CX0 (k + 1) f fd ps sp := by
  obtain ⟨oc, od, kV, doc, pm, an, cdv, ct, osl, rfl, lk, hcd⟩ := F.ex
  refine fnG_of lk hcd S len ?_
  intro A outer s H vs Q E room gd hsp
  obtain ⟨t, h, q⟩ := hbody cdv A outer s H vs Q E room gd hsp
  exact ⟨t, h.nox, q⟩
end

section
variable {X : Cx} {CX : CXT} {k : Nat} {f : Addr} {fd : FuncData} {ps : List Str} {sp : Sp} {ds : List Value} {dvs : List V} {E : XK} {x : Str} {e : Expr} {es : List Expr} {t : TA} {p pos : Pos}
/-- f(e, ..), f a def that shows -/
theorem pe_callG (F : FnG X.prog X.w X.K X.mg X.base CX k f fd ps sp) (hr : Room k X.A) (gd : X.A.guards = some [])
    (hg : Gl X x) (hm : X.mg x = some (.ref f)) (hk : PySem.W.keepIn X.K (.ref f) = true) (hb : Binds X.K fd ps ds)
    (hd : Vals dvs ds) (hx : Passes CX X E) (ha : PA X (e :: es) t) (hdb : (x == ("__debug__" : Str)) = false := by decide)
    (he : starEach (e :: es) X.env = (false, eval e X.env) :: starEach es X.env := by rfl)
    (hpl : (backTo pos (starEach es X.env)).any (·.1) = false := by rfl) :
    PE X (.Call (.Name x p) (e :: es) [] pos) (tCall sp dvs E t) := by
  constructor
  intro pins s σ H Q I h
  refine wpAny_Call_Name_kw (ld_glob I hg hm ?_ hdb)
  refine PySem.W.callWith_K (h₀ := X.base) I.ok.mod.kin hk (thn (ha.run pos pins s σ H _ I h) ?_) he hpl
  rintro us s1 ⟨vs, H1, I1, r, q⟩
  refine ⟨I1.kIn, ?_⟩
  have r2 : Vals (vs ++ dvs) (us ++ ds) := r.append hd
  have hl : (us ++ ds).length = ps.length := r2.length.symm.trans (F.len _ _ _ _ q)
  refine wpAny_call (codeAny_mono (F.run X.A X.stack s1 H1 ⟨us, []⟩ (us ++ ds) (vs ++ dvs) Q E hr gd I1.env0 (hb s1 us I1.kIn hl) r2 q) ?_)
  intro r s' hq
  match r, hq with
  | .error e, hq => exact hx pins σ H1 s1 e s' I1 hq
  | .ok (.ret u), hq => exact I1.after hq
end

/-- the law's own call -/
theorem law_callG {P : Program} {w : World} {K : PySem.W.Frag} {mg mb : Str → Option Value} {k : Nat} {fa a : Addr} {fd : FuncData} {x : Str} {sp : Sp}
    {s₁ : Shared} {vs : List Value} {ns : List Int} (KX : K.In s₁.heap) (hns : s₁.heap.Ns mainGlobals mg) (hb : s₁.heap.Ns builtinsNs mb)
    (hbb : ∀ x : Str, x ≠ "__name__" → mb x = bootBuiltins x) (hlim : s₁.heap.NoLimit) (hg : s₁.gens = #[])
    (ha : s₁.heap.get? a = some { cls := .type "list", data := .seq vs.toArray }) (hi : IntsAre vs ns) (hl : ns.length ≤ sizeLine) (hr : Room k callerA)
    (F : ∀ base : Heap, K.In base → base.Ns mainGlobals mg → FnG P w K mg base CX0 k fa fd [x] sp)
    (hbind : ∀ (s : Shared) (u : Value), BindsTo s fd ⟨[u], []⟩ [(x, u)])
    (hsp : ∀ H : Hp, Only H → SqL K H a (ns.map V.int) → sp [.ref a] H (fun v _ => v = .bl true) fun _ _ _ => False) :
    codeAny (model P w) callerA (.call (.ref fa) ⟨[.ref a], []⟩)
      (fun r s' => r = .ok (.ret (.bool true)) ∧ OldK s₁.heap s'.heap ∧ s'.os = s₁.os ∧ AllBare s'.gens) s₁ := by
  -- whatever is tracked at the entry is the script alone
  have main : ∀ H : Hp, Only H → SqL K H a (ns.map V.int) → HOk P w H s₁.heap → (∀ b, H b ≠ none → b = a) → (H a ≠ none → K.lookup a = none) →
      codeAny (model P w) callerA (.call (.ref fa) ⟨[.ref a], []⟩)
        (fun r s' => r = .ok (.ret (.bool true)) ∧ OldK s₁.heap s'.heap ∧ s'.os = s₁.os ∧ AllBare s'.gens) s₁ := by
    intro H only hS hok one hK
    have isA : ∀ {b : Addr} {u : HO}, H b = some u → b = a := fun {b u} q => one b (by rw [q]; exact Option.some_ne_none u)
    have dictFree : ∀ {b : Addr} {o : Obj} {es : Array DictEntry} {ep : Nat}, s₁.heap.get? b = some o → o.data = .dict es ep → H b = none := by
      intro b o es ep e d
      cases q : H b with
      | none => rfl
      | some u =>
        have z := isA q
        rw [z, ha] at e
        have e' := Option.some.inj e
        rw [← e'] at d
        exact absurd d (by intro y; cases y)
    have nsK : ∀ {b : Addr} {m : Str → Option Value}, s₁.heap.Ns b m → (hidT s₁.heap H).Ns b m := by
      rintro b m ⟨o, es, ep, e, d, r⟩
      exact ⟨o, es, ep, hidT_get e (dictFree e d), d, r⟩
    have kInB : K.In (hidT s₁.heap H) := by
      intro b o e
      refine hidT_get (KX b o e) ?_
      cases q : H b with
      | none => rfl
      | some u =>
        have z := isA q
        rw [z] at q e
        rw [hK (by rw [q]; exact Option.some_ne_none u)] at e
        cases e
    have md : Mod K mg (hidT s₁.heap H) := ⟨kInB, nsK hns, ⟨mb, nsK hb, hbb⟩, by obtain ⟨mc, h1, h2⟩ := hlim; exact ⟨mc, nsK h1, h2⟩⟩
    have e0 : Env0 P w K mg (hidT s₁.heap H) callerA [] s₁ H :=
      ⟨rfl, md, fun b o e => of_hidT e, Nat.le_of_eq (hidT_size _ _), trivial, fun b z => (List.not_mem_nil z).elim, hok, .of_eq hg⟩
    have goal := (F _ kInB (nsK hns)).run callerA [] s₁ H ⟨[.ref a], []⟩ [.ref a] [.ref a] _ _ hr rfl e0 (hbind s₁ (.ref a)) (.cons rfl .nil) (hsp H only hS)
    refine codeAny_mono goal ?_
    intro r s' h
    match r, h with
    | .ok (.ret u), ⟨v, H', os, bare, un, hok', r', q⟩ =>
      have q' : v = .bl true := q
      subst q'
      obtain rfl : u = Value.bool true := r'
      refine ⟨rfl, OldK.of_keep ?_, os, bare⟩
      intro b o e
      cases q : H b with
      | none => exact un.keep b o e q (fun z => (List.not_mem_nil z).elim) (fun z => (List.not_mem_nil z).elim)
      | some u =>
        rcases only b with z | ⟨ob, xs, z⟩
        · rw [z] at q
          cases q
        · obtain ⟨e1, _⟩ := hok b _ z
          obtain ⟨e2, _⟩ := hok' b _ (un.frzs b ob _ z)
          exact e2.trans (e1.symm.trans e)
  have rv := vals_ints hi
  cases hk : K.lookup a with
  | some o =>
    have e := KX a o hk
    rw [ha] at e
    have e' := Option.some.inj e
    subst e'
    refine main (fun _ => none) (fun _ => .inl rfl) (.inr ⟨_, vs.toArray, _, hk, rfl, rfl, rfl, ?_, ?_⟩) (fun b u z => ?_) (fun b z => (z rfl).elim) (fun z => (z rfl).elim)
    · rw [List.size_toArray, hi.length]
      exact hl
    · simpa using rv
    · exact absurd z (by intro y; cases y)
  | none =>
    have at_ : ∀ b, (fun b : Addr => if b = a then some (HO.frz { cls := .type "list", data := .seq vs.toArray } (.lst (ns.map V.int))) else none) b ≠ none → b = a := by
      intro b z
      by_cases hb : b = a
      · exact hb
      · exact absurd (if_neg hb) z
    refine main (fun b => if b = a then some (HO.frz { cls := .type "list", data := .seq vs.toArray } (.lst (ns.map V.int))) else none) (fun b => ?_)
      (.inl (.inr ⟨_, if_pos rfl⟩)) (fun b u z => ?_) at_ (fun _ => hk)
    · by_cases hb : b = a
      · exact .inr ⟨_, _, if_pos hb⟩
      · exact .inl (if_neg hb)
    · have hb := at_ b (by rw [z]; exact Option.some_ne_none u)
      have z' := (if_pos hb).symm.trans z
      have z2 := Option.some.inj z'
      subst z2
      rw [hb]
      exact ⟨ha, by rw [List.length_map]; exact hl, vs, _, rv, ha⟩

theorem walk_ofG {l : PySem.W.OpenLaw} {n k : Nat} {q : Program} {loose : List Str} {XP : (Str → Option Value) → Heap → Prop} {YP : World → Heap → Prop}
    {d : DefRec} {K : Params → PySem.W.Frag} {sp : PySem.W.Frag → Sp} {x : Str}
    (hn : l.most = some n) (hn2 : n ≤ sizeLine) (hdf : d.params.defaults = []) (hr : Room k callerA)
    (hY : ∀ (w : World) (h : Heap), YP w h → (K w.params).In h)
    (F : ∀ (w : World) (mg : Str → Option Value) (fa : Addr) (h : Heap), (K w.params).In h → h.Ns mainGlobals mg → mg d.name = some (.ref fa) →
      ∃ fd : FuncData, (∀ (s : Shared) (u : Value), BindsTo s fd ⟨[u], []⟩ [(x, u)]) ∧
        ∀ base : Heap, (K w.params).In base → base.Ns mainGlobals mg →
          FnG l.prog w (K w.params) mg base CX0 k fa fd [x] (sp (K w.params)))
    (hsp : ∀ (K : PySem.W.Frag) (H : Hp) (a : Addr) (ns : List Int), ns.length ≤ n → Only H → SqL K H a (ns.map V.int) →
      sp K [.ref a] H (fun v _ => v = .bl true) fun _ _ _ => False) :
    PySem.W.WalkO q loose XP YP l.row.toRowW d [] (fun f vs => PySem.call f vs) := by
  refine Att.attach_call hn hdf ?_
  intro w s₀ s₁ mg mb fa o pm cd doc a vs ns G Y ho hd hcd hmg hobj hints hlen hg
  obtain ⟨fd, hb, hF⟩ := F w mg fa _ (hY w _ Y) G.T.g hmg
  exact law_callG (hY w _ Y) G.T.g G.T.b G.T.builtins G.T.nolimit hg hobj hints (Nat.le_trans hlen hn2) hr hF hb
    (fun H hO hS => hsp (K w.params) H a ns hlen hO hS)
end NB
/-! NBb: repr of data (dicts too) in the layer. -/
namespace NB
open PySem PySem.Spec PyProof.Rows L2

def keyD : Key → PyData
  | .inl i => .int i
  | .inr x => .str x
mutual
inductive DR (K : PySem.W.Frag) (H : Hp) : V → PyData → Prop
  | non : DR K H .non .none
  | bl (b : Bool) : DR K H (.bl b) (.bool b)
  | int (i : Int) : DR K H (.int i) (.int i)
  | str (x : Str) : DR K H (.str x) (.str x)
  | lst {a : Addr} {xs : List V} {ds : List PyData} : a ≠ sysModules → SqL K H a xs → DRs K H xs ds → DR K H (.ref a) (.list ds)
  | tup {a : Addr} {xs : List V} {ds : List PyData} : SqT K H a xs → DRs K H xs ds → DR K H (.ref a) (.tuple ds)
  | dct {a : Addr} {kvs : List (Key × V)} {ds : List PyData} : H a = some (.dK kvs) → DRs K H (kvs.map (·.2)) ds →
      DR K H (.ref a) (.dict ((kvs.map fun p => keyD p.1).zip ds))
inductive DRs (K : PySem.W.Frag) (H : Hp) : List V → List PyData → Prop
  | nil : DRs K H [] []
  | cons {v : V} {vs : List V} {d : PyData} {ds : List PyData} : DR K H v d → DRs K H vs ds → DRs K H (v :: vs) (d :: ds)
end

/-- what stands stays readable where all that is tracked is kept -/
theorem sq_keep {K : PySem.W.Frag} {H H' : Hp} (e : ∀ a o, H a = some o → H' a = some o) {a : Addr} {xs : List V} (h : SqL K H a xs) : SqL K H' a xs := by
  rcases h with (h | ⟨o, h⟩) | h
  · exact Or.inl (Or.inl (e _ _ h))
  · exact Or.inl (Or.inr ⟨o, e _ _ h⟩)
  · exact Or.inr h
theorem st_keep {K : PySem.W.Frag} {H H' : Hp} (e : ∀ a o, H a = some o → H' a = some o) {a : Addr} {xs : List V} (h : SqT K H a xs) : SqT K H' a xs := by
  rcases h with (h | ⟨o, h⟩) | h
  · exact Or.inl (Or.inl (e _ _ h))
  · exact Or.inl (Or.inr ⟨o, e _ _ h⟩)
  · exact Or.inr h
mutual
theorem DR.keep {K : PySem.W.Frag} {H H' : Hp} (e : ∀ a o, H a = some o → H' a = some o) : ∀ {v : V} {d : PyData}, DR K H v d → DR K H' v d
  | _, _, .non => .non
  | _, _, .bl b => .bl b
  | _, _, .int i => .int i
  | _, _, .str x => .str x
  | _, _, .lst n h r => .lst n (sq_keep e h) (DRs.keep e r)
  | _, _, .tup h r => .tup (st_keep e h) (DRs.keep e r)
  | _, _, .dct h r => .dct (e _ _ h) (DRs.keep e r)
theorem DRs.keep {K : PySem.W.Frag} {H H' : Hp} (e : ∀ a o, H a = some o → H' a = some o) : ∀ {vs : List V} {ds : List PyData}, DRs K H vs ds → DRs K H' vs ds
  | _, _, .nil => .nil
  | _, _, .cons h r => .cons (DR.keep e h) (DRs.keep e r)
end

section
variable {X : Cx} {pins : List (Addr × Obj)} {σ : L2.St} {H : Hp} {s : Shared}
theorem keys_read {P : Program} {w : World} {h : Heap} : ∀ {es : List DictEntry} {kvs : List (Key × V)} {vs : List (Key × Value)}, KV kvs vs → Pairs (mixKind P w) es vs →
    ReadsAll h (es.map (·.key)) (kvs.map fun p => keyD p.1) [] ∧ Vals (kvs.map (·.2)) (es.map (·.val)) := by
  intro es kvs vs kv pr
  induction pr generalizing kvs with
  | nil => cases kv; exact ⟨.nil, .nil⟩
  | @cons e q es vs h1 h3 h2 ih =>
    cases kv with
    | @cons p _ kvs _ r kv' =>
      obtain ⟨i1, i2⟩ := ih kv'
      obtain ⟨k, v⟩ := p
      obtain ⟨k', v'⟩ := q
      obtain ⟨rk, rv⟩ := r
      have rk' : k = k' := rk
      subst rk'
      have h1 : keyIs k e.key = true := h1
      have h3 : e.val = v' := h3
      refine ⟨?_, .cons (by show RelV v e.val; rw [h3]; exact rv) i2⟩
      show ReadsAll h (e.key :: es.map (·.key)) (keyD k :: kvs.map fun p => keyD p.1) []
      have q : Reads h e.key (keyD k) [] := by
        rcases keyIs_shape h1 with ⟨i, t, rfl, z⟩ | ⟨x, t, rfl, z⟩
        · rw [z]; exact .int i t
        · rw [z]; exact .str x t
      exact ReadsAll.cons (as := []) (bs := []) q i1
theorem DRs.length {K : PySem.W.Frag} : ∀ {vs : List V} {ds : List PyData}, DRs K H vs ds → ds.length = vs.length
  | _, _, .nil => rfl
  | _, _, .cons _ r => congrArg (· + 1) (DRs.length r)
mutual
theorem DR.reads (I : Inv X pins σ H s) : ∀ {v : V} {d : PyData}, DR X.K H v d → ∀ (u : Value), RelV v u → ∃ as, Reads s.heap u d as ∧ sysModules ∉ as
  | _, _, .non, _, r => by
    cases r
    exact ⟨_, .none, List.not_mem_nil⟩
  | _, _, .bl b, _, r => by
    cases r
    exact ⟨_, .bool b, List.not_mem_nil⟩
  | _, _, .int i, _, r => by
    obtain ⟨t, rfl⟩ := r
    exact ⟨_, .int i t, List.not_mem_nil⟩
  | _, _, .str x, _, r => by
    obtain ⟨t, rfl⟩ := r
    exact ⟨_, .str x t, List.not_mem_nil⟩
  | _, _, .lst hn hs ha, _, r => by
    cases r
    obtain ⟨its, rv, ⟨o, n, ho, hc, _, hd⟩, _⟩ := I.list hs
    obtain ⟨as, hr, hm⟩ := DRs.reads I ha its rv
    refine ⟨_, .list ho hc hd hr, fun z => ?_⟩
    rcases List.mem_cons.mp z with z | z
    · exact hn z.symm
    · exact hm z
  | _, _, .tup hs ha, _, r => by
    cases r
    obtain ⟨its, rv, ⟨o, ho, hc, n, hd⟩, _⟩ := I.tuple hs
    obtain ⟨as, hr, hm⟩ := DRs.reads I ha its rv
    exact ⟨_, .tuple ho hc hd hr, hm⟩
  | _, _, @DR.dct _ _ a kvs ds he ha, _, r => by
    cases r
    obtain ⟨_, hsys, vs, kv, o, es, ep, ho, hex, hd, _, hp, _⟩ : kvs.length ≤ sizeLine ∧ (a == sysModules) = false ∧ ∃ vs, KV kvs vs ∧ s.heap.DictOf (mixKind X.prog X.w) a vs := I.hok a _ he
    obtain ⟨h1, h2⟩ := keys_read (h := s.heap) kv hp
    have hl : ds.length = kvs.length := by rw [DRs.length ha, List.length_map]
    have e1 : ((kvs.map fun p => keyD p.1).zip ds).map (·.1) = kvs.map fun p => keyD p.1 := List.map_fst_zip (by rw [List.length_map, hl]; exact Nat.le_refl _)
    have e2 : ((kvs.map fun p => keyD p.1).zip ds).map (·.2) = ds := List.map_snd_zip (by rw [List.length_map, hl]; exact Nat.le_refl _)
    obtain ⟨as, hr, hm⟩ := DRs.reads I ha (es.toList.map (·.val)) h2
    refine ⟨_, .dict ho hex.1 hd (as := []) (bs := as) (by rw [e1]; exact h1) (by rw [e2]; exact hr), fun z => ?_⟩
    rcases List.mem_cons.mp z with z | z
    · rw [z] at hsys; simp at hsys
    · exact hm z
theorem DRs.reads (I : Inv X pins σ H s) : ∀ {vs : List V} {ds : List PyData}, DRs X.K H vs ds → ∀ (us : List Value), Vals vs us → ∃ as, ReadsAll s.heap us ds as ∧ sysModules ∉ as
  | _, _, .nil, _, r => by
    cases r
    exact ⟨_, .nil, List.not_mem_nil⟩
  | _, _, .cons h1 h2, _, r => by
    cases r with
    | cons r1 r2 =>
      obtain ⟨as, q1, m1⟩ := DR.reads I h1 _ r1
      obtain ⟨bs, q2, m2⟩ := DRs.reads I h2 _ r2
      exact ⟨_, .cons q1 q2, fun z => (List.mem_append.mp z).elim m1 m2⟩
end
end

/-- repr(x): the text of the data -/
def rRepr (K : PySem.W.Frag) : List V → Hp → VK → Prop := fun xs H Q => ∃ (x : V) (d : PyData), xs = [x] ∧ DR K H x d ∧ d.showable = true ∧ d.depth ≤ 60 ∧ d.shown.length ≤ sizeLine ∧ Q (.str d.shown) H
theorem call_repr {X : Cx} {k : Nat} (hr : Room k X.A) (gd : X.A.guards = some []) : CallR X (.builtin "repr") (rRepr X.K) := by
  intro pins s σ H xs us Q I r h
  obtain ⟨x, d, rfl, hd, h1, h2, h3, q⟩ := h
  obtain ⟨u, rfl, rx⟩ := vals1 r
  cases hd with
  | non =>
    cases rx
    exact PySem.P.repr_of_none ⟨.str _, H, I.tok _, ⟨_, rfl⟩, q⟩
  | bl b =>
    cases rx
    exact PySem.P.repr_of_bool ⟨.str _, H, I.tok _, ⟨_, rfl⟩, q⟩
  | int i =>
    obtain ⟨t, rfl⟩ := rx
    exact PySem.P.repr_of_int (of_decide_eq_true h1) ⟨.str _, H, I.tok _, ⟨_, rfl⟩, q⟩
  | str y =>
    obtain ⟨t, rfl⟩ := rx
    exact PySem.P.repr_of_str ⟨.str _, H, I.tok _, ⟨_, rfl⟩, q⟩ h3
  | lst a b c =>
    obtain ⟨as, rd, nm⟩ := DR.reads I (.lst a b c) _ rx
    cases rx
    exact repr_of_reads' rd h1 (fun _ => nm) gd (by have := hr.units; omega) (fun _ _ e => e) (fun h' u tk hk => ⟨.str _, H, I.kept hk, ⟨_, rfl⟩, q⟩) h3
  | tup a b =>
    obtain ⟨as, rd, nm⟩ := DR.reads I (.tup a b) _ rx
    cases rx
    exact repr_of_reads' rd h1 (fun _ => nm) gd (by have := hr.units; omega) (fun _ _ e => e) (fun h' u tk hk => ⟨.str _, H, I.kept hk, ⟨_, rfl⟩, q⟩) h3
  | dct a b =>
    obtain ⟨as, rd, nm⟩ := DR.reads I (.dct a b) _ rx
    cases rx
    exact repr_of_reads' rd h1 (fun _ => nm) gd (by have := hr.units; omega) (fun _ _ e => e) (fun h' u tk hk => ⟨.str _, H, I.kept hk, ⟨_, rfl⟩, q⟩) h3

/-- a list display whose place is told to be none of the interpreter's own -/
def tLstM (t : TA) : TE := fun σ H Q => t σ H fun xs H1 => xs.length ≤ sizeLine ∧ ∀ p, H1 p = none → p ≠ sysModules → Q (.ref p) (upd H1 p (.lst xs))
theorem pe_lstM {X : Cx} {es : List Expr} {t : TA} {pos : Pos} (h : PA X es t) : PE X (.List es pos) (tLstM t) := by
  constructor
  intro pins s σ H Q I hq
  refine wpAny_List_spliced (thn (h.run pos pins s σ H _ I hq) ?_)
  rintro us s1 ⟨xs, H1, I1, r, z, q⟩
  refine ⟨r.length ▸ z, .ref s1.heap.objs.size, upd H1 s1.heap.objs.size (.lst xs), ?_, rfl, q _ (I1.hok.fresh (Nat.le_refl _)) (Nat.ne_of_gt I1.big)⟩
  exact I1.laid (t' := s1.toks) (fun b u e => Heap.get?_push_of_some _ e) (Nat.le_refl _) ⟨z, us, 0, r, Heap.get?_push_size _ rfl⟩
end NB
/-! NBc: own exceptions as values: made by place and by name, asked for their class, their fields read. -/
namespace PySem
namespace NBX
open Builtin Builtin.ObjectAttr HandSPX
section
variable {M : Model} {A : Around} {E : Value → Shared → Prop} {h : Heap} {g : Array GenState} {d : Drawn} {t : Nat} {os : OsState}
variable {nm q : Str} {C N : Addr} {bs bm bmB : List Value} {hdct : Bool} {sn : List Str} {sub : List Value} {ab : Bool} {col : Option Bool} {dd : Option Addr} {k0 k1 k2 k3 k5 : Option Value} {B newId initId : String}
variable {kw : List (Str × Value)}
theorem check_newK (F : ExcBaseFacts B newId initId bmB) (hT : ∀ X : String, bm.contains (.type X) = bmB.contains (.type X)) {rest : List Value} {Q : Unit → Shared → Prop}
    (hC : h.get? C = some (excClassObj nm q C N bs bm hdct sn sub ab col dd k0 k1 k2 k3 k5 newId)) (hq : Q () ⟨h, g, d, t, os⟩) :
    wpAny M A (checkBuiltinCall newId ⟨.ref C :: rest, kw⟩) Q E ⟨h, g, d, t, os⟩ := by
  have has : (Value.ref C :: bm).contains (.type B) = true := by rw [List.contains_cons, hT, F.hasB, Bool.or_true]
  have short := F.noStar
  simp only [checkBuiltinCall, F.newKind, F.newSplit, F.newRow]
  repeat (first
    | refine wpAny_loadPart_at hC ?_
    | (refine wpAny_isSubtype_exc hC ?_; rw [has])
    | refine wpAny_staticBase_exc hC ?_
    | refine wpAny_madeBy_exc hC ?_
    | simp only [bne_self_eq_false, Bool.false_eq_true, if_false]
    | wp_step)
  exact hq
end
section
variable {prog : Program} {w : World} {A : Around} {E : Value → Shared → Prop} {R : Result → Shared → Prop} {h : Heap} {g : Array GenState} {d : Drawn} {t : Nat} {os : OsState}
variable {nm q : Str} {C N : Addr} {bs bm bmB : List Value} {hdct : Bool} {sn : List Str} {sub : List Value} {ab : Bool} {col : Option Bool} {dd : Option Addr} {k0 k1 k2 k3 k5 : Option Value} {B newId initId : String}
variable {kw : List (Str × Value)}
theorem newK (F : ExcBaseFacts B newId initId bmB) (hT : ∀ X : String, bm.contains (.type X) = bmB.contains (.type X)) {rest : List Value}
    (hC : h.get? C = some (excClassObj nm q C N bs bm hdct sn sub ab col dd k0 k1 k2 k3 k5 newId))
    (hq : R (.ok (.ret (.ref (h.objs.size + 1)))) ⟨(h.push (W.kdv_tup rest)).push (excO C h.objs.size), g, d, t, os⟩)
    (hrest : rest.length ≤ sizeLine) :
    codeAny (model prog w) A (.builtin newId ⟨.ref C :: rest, kw⟩) R ⟨h, g, d, t, os⟩ := by
  have ends := F.ends
  have c1 : (Value.ref C :: bm).contains (.type B) = true := by rw [List.contains_cons, hT, F.hasB, Bool.or_true]
  have c2 : (Value.ref C :: bm).contains (.type "AttributeError") = false := by rw [List.contains_cons, hT, F.noAttr]; rfl
  have c3 : (Value.ref C :: bm).contains (.type "NameError") = false := by rw [List.contains_cons, hT, F.noName]; rfl
  refine codeAny_builtinAt F.entry ?_
  unfold Builtin.«BaseException.__new__»
  refine wpAt_bind ?_
  show wpAt _ _ _ (stack >>= _) _ _ _
  refine wpAt_bind (wpAt_stack fun p below => wpAt_of_wpAny ?_)
  wp_walk
  refine wpAt_of_wpAny ?_
  rw [F.owner]
  repeat (first
    | with_reducible refine wpAny_madeHere_exc F.canon hC ?_
    | with_reducible refine wpAny_loadPart_at hC ?_
    | (with_reducible refine wpAny_isSubtype_exc hC ?_; first | rw [c1] | rw [c2] | rw [c3])
    | wp_step)
  show R _ _
  rw [Heap.size_push]
  exact hq
theorem type_callK (F : ExcBaseFacts B newId initId bmB) (hT : ∀ X : String, bm.contains (.type X) = bmB.contains (.type X)) {rest : List Value} {fI : Addr} {Q : Fin → Shared → Prop}
    (hC : h.get? C = some (excClassObj nm q C N bs bm hdct sn sub ab col dd k0 k1 k2 k3 k5 newId))
    (hi : W.Looks (model prog w) h (typeLookup (.ref C) "__init__") (some (.ref fI)))
    (hb : ∀ self, W.Looks (model prog w) h (bindSpecial (.ref fI) self) (.ref fI, [self])) (hrest : rest.length ≤ sizeLine)
    (hq : codeAny (model prog w) A (.call (.ref fI) ⟨.ref (h.objs.size + 1) :: rest, kw⟩)
      (fun r s' => match r with
        | .ok (.ret v) => v = .none ∧ Q (.done (.ret (.ref (h.objs.size + 1)))) s'
        | .ok _ => False
        | .error e => E e s')
      ⟨(h.push (W.kdv_tup rest)).push (excO C h.objs.size), g, d, t, os⟩) :
    wpAny (model prog w) A (Builtin.«type.__call__» ⟨.ref C :: rest, kw⟩) Q E ⟨h, g, d, t, os⟩ := by
  repeat (first
    | with_reducible refine wpAny_loadPart_at hC ?_
    | with_reducible refine wpAny_madeBy_exc hC ?_
    | wp_step)
  refine codeAny_call_builtin_code (Code.quiet_builtin _ F.quiet) (check_newK F hT hC (newK F hT hC ?_ hrest))
  show wpAny _ _ _ _ _ _
  have kept : ∀ b o, h.get? b = some o → ((h.push (W.kdv_tup rest)).push (excO C h.objs.size)).get? b = some o :=
    fun b o e => Heap.get?_push_of_some _ (Heap.get?_push_of_some _ e)
  have hC1 := kept _ _ hC
  have new1 : ((h.push (W.kdv_tup rest)).push (excO C h.objs.size)).get? (h.objs.size + 1) = some (excO C h.objs.size) := by heap_get
  have own : (Value.ref C :: bm).contains (.ref C) = true := by simp
  have hi1 := hi.keeps kept
  have hb1 := (hb (.ref (h.objs.size + 1))).keeps kept
  unfold isInstance
  repeat (first
    | with_reducible refine wpAny_loadPart_at new1 ?_
    | (with_reducible refine wpAny_isSubtype_exc hC1 ?_; rw [own])
    | wp_step)
  show wpAny _ _ (typeLookup (.ref C) _) _ _ _
  refine hi1.at (wpAny_holding (wpAny_bind (hb1.at (wpAny_bind (wpAny_call (codeAny_mono hq ?_))))))
  intro r s' z
  rcases r with e | (v | _ | _ | _)
  all_goals first
    | exact z
    | exact z.elim
    | (obtain ⟨rfl, z⟩ := z
       first
         | exact wpAny_pure (wpAny_pure z)
         | (wp_walk; exact z))
theorem callK (F : ExcBaseFacts B newId initId bmB) (hT : ∀ X : String, bm.contains (.type X) = bmB.contains (.type X)) {rest : List Value} {fI : Addr}
    (hC : h.get? C = some (excClassObj nm q C N bs bm hdct sn sub ab col dd k0 k1 k2 k3 k5 newId))
    (hi : W.Looks (model prog w) h (typeLookup (.ref C) "__init__") (some (.ref fI)))
    (hb : ∀ self, W.Looks (model prog w) h (bindSpecial (.ref fI) self) (.ref fI, [self])) (hrest : rest.length ≤ sizeLine)
    (hq : codeAny (model prog w) (A.under (.builtin "type.__call__" ⟨.ref C :: rest, kw⟩)) (.call (.ref fI) ⟨.ref (h.objs.size + 1) :: rest, kw⟩)
      (W.InitBack (h.objs.size + 1) R) ⟨(h.push (W.kdv_tup rest)).push (excO C h.objs.size), g, d, t, os⟩) :
    codeAny (model prog w) A (.call (.ref C) ⟨rest, kw⟩) R ⟨h, g, d, t, os⟩ := by
  have z1 := tc_lookup
  have z2 := tc_bind (.ref C)
  have hTy : (⟨h, g, d, t, os⟩ : Shared).TypeIs (.ref C) "type" := ⟨_, hC, rfl⟩
  refine codeAny_of_tree ?_
  show wpAny _ _ (callAny (.ref C) _) _ _ _
  repeat (any_goals (first | assumption | with_reducible refine wpAny_loadPart_at hC ?_ | wp_step))
  refine ⟨rfl, codeAny_call_builtin_at (Code.quiet_builtin _ (by decide +kernel)) entry_typeCall
    (wpAny_check_type_call_sub hC (type_callK F hT hC hi hb hrest (codeAny_mono hq ?_)))⟩
  intro r s' z
  rcases r with e | (v | _ | _ | _) <;> exact z
end
end NBX
end PySem
/-! NBd: the layer's rules for own exceptions as values. -/
namespace NB
open PySem PySem.Spec L2
abbrev SV := L2.St

/-- an exception that was caught and kept -/
def exk (a C : Addr) (d : Option Addr) : HO := .ext fun h => ∃ (o : Obj) (vs : Array Value), h.get? a = some o ∧ o.cls = .ref C ∧ o.dict = d ∧ o.data = .fields vs
theorem exk_ok {P : Program} {w : World} {H : Hp} {h : Heap} {a C : Addr} {d : Option Addr} {o : Obj} {vs : Array Value} (e : h.get? a = some o) (c : o.cls = .ref C) (dd : o.dict = d) (f : o.data = .fields vs) : ObjOk P w H h a (exk a C d) := by
  refine ⟨⟨o, vs, e, c, dd, f⟩, ⟨o, e⟩, ?_⟩
  rintro h1 h2 ⟨o', v', q, r⟩ k
  exact ⟨o', v', k _ q, r⟩

/-- at a: an exception of the class at C with its dict at d -/
inductive IsEx (H : Hp) (a C : Addr) (d : Option Addr) : Prop
  | new (h : H a = some (exo a C d))
  | kept (h : H a = some (exk a C d))
  | plain (e : d = none) (h : H a = some (ExO (.ref C) a))
inductive XDict (H : Hp) (d : Addr) (fs : List (Str × V)) : Prop
  | new (h : H d = some (exd d fs))
  | old (h : H d = some (.xd fs))
/-- its fields -/
inductive XFs (H : Hp) : Option Addr → List (Str × V) → Prop
  | no : XFs H none []
  | have_ {d : Addr} {fs : List (Str × V)} (h : XDict H d fs) : XFs H (some d) fs

section
variable {P : Program} {w : World} {H H' : Hp} {h : Heap} {a C : Addr} {d : Option Addr} {fs : List (Str × V)}
theorem IsEx.at_ (hok : HOk P w H h) (x : IsEx H a C d) : ∃ (o : Obj) (vs : Array Value), h.get? a = some o ∧ o.cls = .ref C ∧ o.dict = d ∧ o.data = .fields vs := by
  cases x with
  | new e =>
    obtain ⟨t1, q⟩ := exo_at hok e
    exact ⟨_, _, q, rfl, rfl, rfl⟩
  | kept e =>
    have z : ObjOk P w H h a (.ext fun h => ∃ (o : Obj) (vs : Array Value), h.get? a = some o ∧ o.cls = .ref C ∧ o.dict = d ∧ o.data = .fields vs) := hok a _ e
    exact z.1
  | plain ed e =>
    have z : ObjOk P w H h a (.ext fun h => ∃ (oe : Obj) (vs : Array Value), h.get? a = some oe ∧ Zc (.ref C) none oe ∧ oe.data = .fields vs ∧ vs[1]? = some .none ∧ vs[2]? = some .none ∧ 4 < vs.size) := hok a _ e
    obtain ⟨oe, vs, q, zc, f, _⟩ := z.1
    subst ed
    exact ⟨oe, vs, q, zc.1, zc.2, f⟩
theorem XDict.at_ {dx : Addr} (hok : HOk P w H h) (x : XDict H dx fs) : ∃ mA, h.Ns1 dx mA ∧ ∀ f, RelO (fs.lookup f) (mA f) := by
  cases x with
  | new e => exact exd_at hok e
  | old e =>
    have z : ObjOk P w H h dx (.xd fs) := hok dx _ e
    exact z
theorem IsEx.keep (k : ∀ a o, H a = some o → H' a = some o) (x : IsEx H a C d) : IsEx H' a C d := by
  cases x with
  | new e => exact .new (k _ _ e)
  | kept e => exact .kept (k _ _ e)
  | plain ed e => exact .plain ed (k _ _ e)
theorem XFs.keep (k : ∀ a o, H a = some o → H' a = some o) (x : XFs H d fs) : XFs H' d fs := by
  cases x with
  | no => exact .no
  | have_ y =>
    cases y with
    | new e => exact .have_ (.new (k _ _ e))
    | old e => exact .have_ (.old (k _ _ e))
end

section
variable {X : Cx} {pins : List (Addr × Obj)} {σ : SV} {H : Hp} {s : Shared} {a C : Addr} {d : Option Addr} {fs : List (Str × V)}
theorem inst_ex (I : Inv X pins σ H s) (x : IsEx H a C d) (y : XFs H d fs) : ∃ (o : Obj) (od : Option Obj), PySem.W.InstAt s.heap a o C od := by
  obtain ⟨o, vs, e, c, dd, f⟩ := x.at_ I.hok
  have nc : PySem.W.notCls o = true := by unfold PySem.W.notCls; rw [f] <;> rfl
  cases y with
  | no => exact ⟨o, none, ⟨e, c, nc, by rw [dd]; trivial⟩⟩
  | have_ y =>
    obtain ⟨mA, hn, _⟩ := y.at_ I.hok
    obtain ⟨od, ho, _⟩ := lookIn_ns hn
    exact ⟨o, some od, ⟨e, c, nc, by rw [dd]; exact ho⟩⟩
/-- isinstance(e, D), e an exception of an own class -/
def rIsX (K : PySem.W.Frag) : List V → Hp → VK → Prop := fun xs H Q => ∃ (a C : Addr) (d : Option Addr) (fs : List (Str × V)) (c : V) (cv : Value) (b : Bool),
  xs = [.ref a, c] ∧ IsEx H a C d ∧ XFs H d fs ∧ ExcC K C ∧ ClsV c cv ∧ PySem.W.kitOne K (.ref C) cv = some b ∧ Q (.bl b) H
theorem kitx_ex {K : PySem.W.Frag} {ox : Obj} {od : Option Obj} (T : ExcC K C) : PySem.W.KitX K (.ref a) (.ref C) (fun h => PySem.W.InstAt h a ox C od) where
  ty := fun _ _ _ I => I.type
  it := fun _ _ X _ => by
    obtain ⟨cd, hc, _⟩ := PySem.W.any_some T.hd
    unfold PySem.W.clsIn at hc
    split at hc
    · rename_i c' d' cd' sl' ho
      intro A' Q' E' s' k q
      unfold isType loadHead
      exact wpAny_bind (wpAny_loadPart (k _ _ (X _ _ ho)) (wpAny_pure q))
    · cases hc
  ne := fun h tp dd its n sl X htp => by
    obtain ⟨cd, hc, _⟩ := PySem.W.any_some T.hd
    refine Bool.eq_false_iff.mpr ?_
    intro q
    have e : C = tp := Value.ref.inj (beq_iff_eq.mp q)
    subst e
    unfold PySem.W.clsIn at hc
    split at hc
    · rename_i c' d' cd' sl' ho
      cases (X _ _ ho).symm.trans htp
    · cases hc
  ca := fun X I k => PySem.W.kx_classE X I T.hg T.hk T.hs (PySem.W.findObj_dataE (by obtain ⟨cd, hc, _⟩ := PySem.W.any_some T.hd; rw [hc]; rfl) T.ha T.hn T.ht) T.hm k
theorem call_isX : CallR X (.builtin "isinstance") (rIsX X.K) := by
  intro pins s σ H xs us Q I r h
  obtain ⟨a, C, d, fs, c, cv, b, rfl, x, y, T, k, e, q⟩ := h
  obtain ⟨u1, u2, rfl, r1, r2⟩ := vals2 r
  cases r1
  have e2 := k.eq r2
  subst e2
  obtain ⟨o, od, J⟩ := inst_ex I x y
  exact PySem.W.kia_one (kitx_ex T) I.kIn J e (fun z => nomatch z) fun tk => ⟨.bl b, H, I.tok tk, rfl, q⟩

/-- e.f -/
def tEfld (K : PySem.W.Frag) (n : Str) (te : TE) : TE := fun σ H Q => te σ H fun x H1 => ∃ (a C dd : Addr) (fs : List (Str × V)) (v : V),
  x = .ref a ∧ IsEx H1 a C (some dd) ∧ XDict H1 dd fs ∧ XfC K C ∧ PySem.W.findIn K (.ref C) n = some none ∧ fs.lookup n = some v ∧ Q v H1
theorem pe_efld {e : Expr} {te : TE} {pos : Pos} {n : Str} (he : PE X e te) (hb : attributeBase e n X.env (eval e X.env) = eval e X.env := by rfl) : PE X (.Attribute e n pos) (tEfld X.K n te) := by
  constructor
  intro pins s σ H Q I h
  refine attr_of hb (thn (he.run pins s σ H _ I h) ?_)
  rintro u s1 ⟨x, H1, I1, rx, a, C, dd, fs, v, ex, ix, xd, T, hno, l, q⟩
  subst ex
  obtain rfl : u = Value.ref a := rx
  obtain ⟨o, vs, ho, hc, hd, hf⟩ := ix.at_ I1.hok
  obtain ⟨mA, hns, hr⟩ := xd.at_ I1.hok
  obtain ⟨od, hod, hl⟩ := lookIn_ns hns
  obtain ⟨u, hu, ru⟩ := RelO.some_of (v := v) (o := mA n) (by rw [← l]; exact hr n)
  have J : PySem.W.InstAt s1.heap a o C (some od) := ⟨ho, hc, by unfold PySem.W.notCls; rw [hf] <;> rfl, by rw [hd]; exact hod⟩
  exact HandSPX.exc_get I1.kIn J T.ga T.gg T.exC (PySem.W.findObj_own T.hdC hno rfl (by rw [hl, hu])) (handed_of ru) ⟨v, H1, I1.tok _, ru, q⟩
end

/-! ### making one -/
section
variable {X : Cx} {k : Nat} {C fI : Addr} {fd : FuncData} {ps ks : List Str} {sp : Sp} {x : Str} {p pos : Pos} {e : Expr} {es : List Expr} {kws : List Keyword} {t tk : TA}
/-- vs: the values in the parameters' order, self left out -/
def tExv (C : Addr) (sp : Sp) (t : TA) : TE := fun σ H Q => t σ H fun vs H1 => vs.length ≤ 1000 ∧ ∀ a, H1 a = none → sp (.ref a :: vs) (upd H1 a (exo a C none)) (fun v H2 => v = .non ∧ Q (.ref a) H2) E0
theorem run_exv {pins : List (Addr × Obj)} {σ : SV} {H : Hp} {s : Shared} {Q : VK} {us ws : List Value} {kw : List (Str × Value)} {vs : List V} (T : OexC X.K C)
    (iC : PySem.W.findIn X.K (.ref C) "__init__" = some (some (.ref fI))) (tI : PySem.W.typeIn X.K (.ref fI) = some (.type "function"))
    (F : FnOk X.prog X.w X.K X.mg X.base CX0 k fI fd ps sp) (hr : Room (k + 1) X.A) (I : Inv X pins σ H s) (hz : us.length ≤ sizeLine) (r : Vals vs ws)
    (hb : ∀ (s' : Shared) (u : Value), X.K.In s'.heap → BindsTo s' fd ⟨u :: us, kw⟩ (ps.zip (u :: ws)))
    (h : ∀ a, H a = none → sp (.ref a :: vs) (upd H a (exo a C none)) (fun v H2 => v = .non ∧ Q (.ref a) H2) E0) :
    wpAny (model X.prog X.w) X.A (call (.ref C) us kw) (EP X pins σ Q) X.xe s := by
  obtain ⟨nm, q, N, bs, bm, sn, sub, ab, col, dd, k0, k1, k2, k3, k5, hC, hbm⟩ := T.cls
  obtain ⟨hp, g, dr, tok, os⟩ := s
  have up : hp.objs.size ≤ hp.objs.size + 1 := Nat.le_succ _
  have kept : ∀ b o, hp.get? b = some o → ((hp.push (PySem.W.kdv_tup us)).push (PySem.HandSPX.excO C hp.objs.size)).get? b = some o :=
    fun b o e => Heap.get?_push_of_some _ (Heap.get?_push_of_some _ e)
  have new1 : ((hp.push (PySem.W.kdv_tup us)).push (PySem.HandSPX.excO C hp.objs.size)).get? (hp.objs.size + 1) = some (PySem.HandSPX.excO C hp.objs.size) := by heap_get
  have I2 : Inv X pins σ (upd H (hp.objs.size + 1) (exo (hp.objs.size + 1) C none)) ⟨(hp.push (PySem.W.kdv_tup us)).push (PySem.HandSPX.excO C hp.objs.size), g, dr, tok, os⟩ :=
    I.laid (t' := tok) kept up (exo_ok new1)
  have want := h (hp.objs.size + 1) (I.hok.fresh up)
  have r2 : Vals (V.ref (hp.objs.size + 1) :: vs) (Value.ref (hp.objs.size + 1) :: ws) := .cons rfl r
  have call1 := F.run _ X.stack _ _ ⟨Value.ref (hp.objs.size + 1) :: us, kw⟩ (Value.ref (hp.objs.size + 1) :: ws) _ _ E0 (hr.make C us kw) (I2.env0.make C us kw) (hb _ _ I2.kIn) r2 want
  refine wpAny_call (PySem.NBX.callK PySem.F.excBase_ValueError (fun Y => PySem.HandSPX.refsVE_contains Y bm hbm) (I.kIn _ _ hC) (PySem.W.looks_findIn I.kIn iC) (fun self => PySem.W.bind_fn I.kIn self tI) hz (codeAny_mono call1 ?_))
  intro r s' hq
  match r, hq with
  | .error er, hq => exact hq.elim
  | .ok (.ret u), hq =>
    obtain ⟨v, H', J, rv, ev, q3⟩ := I2.after hq
    subst ev
    exact ⟨rv, ⟨V.ref (hp.objs.size + 1), H', J, rfl, q3⟩⟩
/-- C(e, ..) -/
theorem pe_exv (T : OexC X.K C) (iC : PySem.W.findIn X.K (.ref C) "__init__" = some (some (.ref fI))) (tI : PySem.W.typeIn X.K (.ref fI) = some (.type "function"))
    (F : FnOk X.prog X.w X.K X.mg X.base CX0 k fI fd ps sp) (hr : Room (k + 1) X.A) (hb : Binds X.K fd ps []) (hg : Gl X x) (hm : X.mg x = some (.ref C)) (ha : PA X (e :: es) t)
    (hdb : (x == ("__debug__" : Str)) = false := by decide) (he : starEach (e :: es) X.env = (false, eval e X.env) :: starEach es X.env := by rfl)
    (hpl : (backTo pos (starEach es X.env)).any (·.1) = false := by rfl) : PE X (.Call (.Name x p) (e :: es) [] pos) (tExv C sp t) := by
  constructor
  intro pins s σ H Q I h
  refine wpAny_Call_Name_kw (ld_glob I hg hm ?_ hdb)
  refine PySem.W.callWith_K (h₀ := X.base) I.ok.mod.kin T.kC (thn (ha.run pos pins s σ H _ I h) ?_) he hpl
  rintro us s1 ⟨vs, H1, I1, r, hz, q⟩
  refine ⟨I1.kIn, ?_⟩
  have hl : vs.length + 1 = ps.length := F.len _ _ _ _ (q s1.heap.objs.size (I1.hok.fresh (Nat.le_refl _)))
  have hu : us.length ≤ sizeLine := by
    rw [← r.length, sizeLine_eq]
    omega
  refine run_exv T iC tI F hr I1 hu r (fun s' u kin => ?_) q
  have b := hb s' (u :: us) kin (by rw [List.append_nil, List.length_cons, ← r.length]; exact hl)
  rw [List.append_nil] at b
  exact b
/-- C(k = e, ..): g brings the keywords' values into the parameters' order -/
theorem pe_exvK {g : List Value → List Value} {gV : List V → List V} (T : OexC X.K C) (iC : PySem.W.findIn X.K (.ref C) "__init__" = some (some (.ref fI))) (tI : PySem.W.typeIn X.K (.ref fI) = some (.type "function"))
    (F : FnOk X.prog X.w X.K X.mg X.base CX0 k fI fd ps sp) (hr : Room (k + 1) X.A)
    (hb : ∀ (s' : Shared) (u : Value) (ws : List Value), ws.length = ks.length → BindsTo s' fd ⟨[u], ks.zip ws⟩ (ps.zip (u :: g ws)))
    (hrel : ∀ {zs : List V} {ws : List Value}, zs.length = ks.length → Vals zs ws → Vals (gV zs) (g ws))
    (hg : Gl X x) (hm : X.mg x = some (.ref C)) (hkw : PK X kws tk)
    (hall : (backToKw pos (keywordEach kws X.env)).all (·.1.isSome) = true := by rfl) (hks : (backToKw pos (keywordEach kws X.env)).filterMap (·.1) = ks := by rfl)
    (hdb : (x == ("__debug__" : Str)) = false := by decide)
    (hpl : ((backTo pos (starEach [] X.env)).any (·.1) || (backToKw pos (keywordEach kws X.env)).any (·.1.isNone)) = false := by rfl) :
    PE X (.Call (.Name x p) [] kws pos) (tExv C sp fun σ H Q => tk σ H fun zs H1 => zs.length = ks.length ∧ Q (gV zs) H1) := by
  constructor
  intro pins s σ H Q I h
  refine wpAny_Call_Name_kw (ld_glob I hg hm ?_ hdb)
  refine PySem.W.callWith_KW0 (h₀ := X.base) I.ok.mod.kin T.kC hall ?_ hpl
  refine thn (hkw.run pos pins s σ H _ I h) ?_
  rintro ws s1 ⟨zs, H1, I1, r, hl, hz, q⟩
  refine ⟨I1.kIn, ?_⟩
  rw [hks]
  exact run_exv (us := []) T iC tI F hr I1 (Nat.zero_le _) (hrel hl r) (fun s' u kin => hb s' u ws (r.length.symm.trans hl)) q
/-- C(), a class without an own __init__ -/
theorem pe_exc0 {bmB : List Value} {B newId initId : String} (F : ExcBaseFacts B newId initId bmB) (q : PySem.W.excIn X.K C bmB newId = true) (gC : X.mg x = some (.ref C)) (kC : PySem.W.keepIn X.K (.ref C) = true) (hg : Gl X x)
    (hdb : (x == ("__debug__" : Str)) = false := by decide) : PE X (.Call (.Name x p) [] [] pos) (fun _ H Q => ∀ a, H a = none → Q (.ref a) (upd H a (ExO (.ref C) a))) := by
  constructor
  intro pins s σ H Q I h
  refine wpAny_Call_Name_kw (ld_glob I hg gC ?_ hdb)
  refine PySem.W.callWith_K0 I.kIn kC ?_
  show wpAny _ _ (call (.ref C) []) _ _ _
  obtain ⟨bm, N, nm, qn, bs, hdct, sn, sub, ab, col, dd, k0, k1, k2, k3, k5, mN, hC, hN, hni, T⟩ := exc_obj I.kIn q
  refine wpAny_call_exc_subT F T hC hN hni (fun h' a hm => ?_) (Nat.zero_le _)
  obtain ⟨t, ht, _, _⟩ := hm.there
  have hn : H a = none := I.hok.gone hm.new
  exact ⟨.ref a, upd H a (ExO (.ref C) a), I.laidN hm.keeps hm.new hn (exO_ok ht ⟨rfl, rfl⟩ rfl rfl rfl (show 4 < 6 by decide)), rfl, h a hn⟩
end
end NB
namespace NB
open PySem L2
def top (i : Nat) : Stmt := PySem.Challenge.pw_nodeadnight_k01_errors_and_their_fields.main.body.getD i (.Pass ⟨0, 0, 0, 0⟩)
/-- the pen: a list of its cells, the number of the next one, what is left of a great one -/
structure Pen (H : Hp) (p c : Addr) (ns : List Int) (i r : Int) : Prop where
  pen : H p = some (.lst [.ref c, .int i, .int r])
  cells : H c = some (.lst (ns.map V.int))
  lo : 0 ≤ i
  few : ns.length ≤ 63
/-- all that was tracked stands, but what is at p -/
def But (p : Addr) (H H' : Hp) : Prop := ∀ a o, a ≠ p → H a = some o → H' a = some o
theorem But.refl (p : Addr) (H : Hp) : But p H H := fun _ _ _ h => h
theorem But.trans {p : Addr} {H H1 H2 : Hp} (a : But p H H1) (b : But p H1 H2) : But p H H2 := fun x o n h => b x o n (a x o n h)
theorem But.upd {p : Addr} {H H' : Hp} {o : HO} (a : But p H H') : But p H (L2.upd H' p o) := fun x u n h => by
  rw [upd_ne n]
  exact a x u n h
theorem But.new {p q : Addr} {H H' : Hp} {o : HO} (a : But p H H') (h : H' q = none) : But p H (L2.upd H' q o) := fun x u n e => by
  have z := a x u n e
  rw [upd_ne (ne_of_none z h)]
  exact z
abbrev penO (c : Addr) (i r : Int) : HO := .lst [.ref c, .int i, .int r]
structure Bi (mg : Str → Option Value) : Prop where
  int : mg "int" = none
  len : mg "len" = none
  abs : mg "abs" = none
  list : mg "list" = none
  range : mg "range" = none
  isinstance : mg "isinstance" = none
  repr : mg "repr" = none

abbrev sDraw : Stmt := top 31
def spDraw : Sp := fun vs H Q _ => ∃ (p c : Addr) (ns : List Int) (i r many : Int), vs = [.ref p, .int many] ∧ Pen H p c ns i r ∧ i ≤ 10000 ∧ 1 ≤ many ∧ many < 2 ^ 100 ∧
  ∀ (H' : Hp) (i' r' d : Int), But p H H' → Pen H' p c ns i' r' → i ≤ i' → i' ≤ i + 1 → 0 ≤ d → d < many → Q (.int d) H'
theorem scDraw : FnScope ["_law_pen_here", "_law_many", "_law_digit", "_law_spot", "_law_cell", "_law_great", "_law_mixed"] ["_law_pen_here", "_law_many"] (defScope sDraw) :=
  ⟨rfl, rfl, rfl, by decide +kernel, rfl, by decide +kernel, by decide +kernel⟩
theorem dp_ints {K : PySem.W.Frag} {H : Hp} : ∀ ns : List Int, DpAll K H (ns.map V.int) (ns.map PyData.int)
  | [] => .nil
  | n :: ns => .cons (.int n) (dp_ints ns)
theorem canLay_ints : ∀ ns : List Int, PyData.canLayAll0 (ns.map PyData.int) = true
  | [] => rfl
  | n :: ns => by
    show (PyData.canLay0 (.int n) && PyData.canLayAll0 (ns.map PyData.int)) = true
    rw [canLay_ints ns]
    rfl
theorem depth_ints : ∀ ns : List Int, PyData.depthAll (ns.map PyData.int) = 0
  | [] => rfl
  | n :: ns => by
    show max (PyData.depth (.int n)) (PyData.depthAll (ns.map PyData.int)) = 0
    rw [depth_ints ns]
    rfl
theorem shaped_ints (ns : List Int) : SeqAt.shaped (.list (ns.map PyData.int)) = true := by
  unfold SeqAt.shaped
  have h1 : PyData.canLay0 (.list (ns.map PyData.int)) = true := by
    show PyData.canLayAll0 (ns.map PyData.int) = true
    exact canLay_ints ns
  have h2 : PyData.depth (.list (ns.map PyData.int)) = 1 := by
    show PyData.depthAll (ns.map PyData.int) + 1 = 1
    rw [depth_ints]
  rw [h1, h2]
  rfl
section
variable {P : Program} {w : World} {K : PySem.W.Frag} {mg : Str → Option Value} {base : Heap}
theorem ok_draw {f : Addr} {fd : FuncData} (F : Fun K "_law_draw" "_law_draw" sDraw f fd) (T : Bi mg) : FnOk P w K mg base CX0 1 f fd ["_law_pen_here", "_law_many"] spDraw := by
  refine F.ok scDraw (fun vs H Q E h => ?_) (fun cdv A outer s H vs Q E hr h => ?_)
  · obtain ⟨p, c, ns, i, r, many, rfl, _⟩ := h
    rfl
  · obtain ⟨p, c, ns, i, r, many, rfl, pen, hi, hm, hm2, k⟩ := h
    refine ⟨_, pss_cons (ps_if (pt_cmpR op_gt (pe_ix ix_list (pv 0) pe_int (fun _ _ => rfl)) pe_int (nomark _))
        (pss_cons (ps_set (i := 2) scDraw.nd rfl (.inl rfl) (pe_op op_mod (pe_callTy call_int1 (by rfl) T.int (by decide +kernel) (pa_cons (pe_ix ix_list (pv 0) pe_int (fun _ _ => rfl)) pa_nil)) (pv 1)))
        (pss_cons (ps_asg (pe_op op_fdivW (pe_callTy call_int1 (by rfl) T.int (by decide +kernel) (pa_cons (pe_ix ix_list (pv 0) pe_int (fun _ _ => rfl)) pa_nil)) (pv 1)) (pg_sub (pv 0) pe_int set_list))
        (pss_one (ps_ret (pv 2))))) pss_nil)
      (pss_cons (ps_set (i := 3) scDraw.nd rfl (.inl rfl) (pe_ix ix_list (pv 0) pe_int (fun _ _ => rfl)))
      (pss_cons (ps_asg (pe_op op_add (pv 3) pe_int) (pg_sub (pv 0) pe_int set_list))
      (pss_cons (ps_set (i := 4) scDraw.nd rfl (.inl rfl) (pe_op op_add (pe_op op_mul pe_int (pv 3)) pe_int))
      (C8.pss_cut (ps_if (pt_cmpR (op_neD hr.units) (pe_ix ix_list (pv 0) pe_int (fun _ _ => rfl)) (pe_lst pa_nil) (nomark _))
        (pss_one (ps_set (i := 4) scDraw.nd rfl (.inl rfl) (pe_ix ix_list (pe_ix ix_list (pv 0) pe_int (fun _ _ => rfl))
          (pe_op op_mod (pe_callTy call_int1 (by rfl) T.int (by decide +kernel) (pa_cons (pv 3) pa_nil)) (pe_callB call_len_seq (by rfl) T.len PySem.boot_len (pa_cons (pe_ix ix_list (pv 0) pe_int (fun _ _ => rfl)) pa_nil))) (fun _ _ => rfl)))) pss_nil)
      (C8.pss_cut (ps_if (PW.pt (pw_and (pt_cmpR op_lt (pv 3) (pe_callB call_len_seq (by rfl) T.len PySem.boot_len (pa_cons (pe_ix ix_list (pv 0) pe_int (fun _ _ => rfl)) pa_nil)) (nomark _))
          (pw_and1 (pt_cmpR op_ge (pe_callB call_abs (by rfl) T.abs (by decide +kernel) (pa_cons (pv 4) pa_nil)) (pe_op op_pow pe_int pe_int) (nomark _)))))
        (pss_cons (ps_set (i := 5) scDraw.nd rfl (.inl rfl) (pe_op op_add (pe_op op_mul pe_int (pe_op op_sub (pe_callB call_abs (by rfl) T.abs (by decide +kernel) (pa_cons (pv 4) pa_nil)) (pe_op op_pow pe_int pe_int)))
            (pe_callTy call_int1 (by rfl) T.int (by decide +kernel) (pa_cons (pe_cmpR op_lt (pv 4) pe_int (nomark _)) pa_nil))))
        (pss_cons (ps_asg (pe_op op_fdivW (pe_callTy call_int1 (by rfl) T.int (by decide +kernel) (pa_cons (pv 5) pa_nil)) (pv 1)) (pg_sub (pv 0) pe_int set_list))
        (pss_one (ps_ret (pe_op op_mod (pe_callTy call_int1 (by rfl) T.int (by decide +kernel) (pa_cons (pv 5) pa_nil)) (pv 1)))))) pss_nil)
      (pss_cons (ps_set (i := 6) scDraw.nd rfl (.inl rfl) (pe_op op_mod (pe_callTy call_int1 (by rfl) T.int (by decide +kernel) (pa_cons (pe_op op_pow (pe_op op_add (pe_op op_add (pe_op op_mod (pe_callTy call_int1 (by rfl) T.int (by decide +kernel) (pa_cons (pv 4) pa_nil)) pe_int)
          (pe_op op_mul pe_int (pv 3))) pe_int) pe_int) pa_nil)) pe_int))
      (pss_cons (ps_set (i := 6) scDraw.nd rfl (.inl rfl) (pe_op op_mod (pe_callTy call_int1 (by rfl) T.int (by decide +kernel) (pa_cons (pe_op op_pow (pe_op op_add (pe_op op_add (pe_op op_mul (pv 6) (pe_op op_add (pe_op op_mul pe_int (pv 3)) pe_int))
          (pe_op op_mul (pe_op op_mul pe_int (pv 3)) (pv 3))) pe_int) pe_int) pa_nil)) pe_int))
      (pss_one (ps_ret (pe_op op_mod (pe_callTy call_int1 (by rfl) T.int (by decide +kernel) (pa_cons (pe_op op_fdiv (pv 6) pe_int) pa_nil)) (pv 1)))))))))))
      , ?_⟩
    have hlp : SqL K H p [.ref c, .int i, .int r] := SqL.of pen.pen
    have hcp : c ≠ p := ne_of pen.cells pen.pen (by
      intro z
      have z2 := HO.lst.inj z
      cases ns with
      | nil => cases z2
      | cons a t => cases z2)
    have hpow : (10 : Int) ^ (18 : Int).toNat = 1000000000000000000 := by decide
    refine ⟨_, rfl, p, _, _, _, rfl, rfl, hlp, rfl, _, _, rfl, rfl, _, rfl, ?_⟩
    refine ite2 (fun h => ?_) (fun h => ?_)
    · refine ⟨_, rfl, p, _, _, _, rfl, rfl, hlp, rfl, .inl ⟨_, rfl, _, rfl, _, _, rfl, rfl, (by show (0 : Int) < many; omega), ?_⟩⟩
      refine ⟨_, rfl, p, _, _, _, rfl, rfl, hlp, rfl, .inl ⟨_, rfl, _, rfl, _, _, rfl, rfl, wide_div (b := 100) (by omega) (by omega) (by decide) (by decide), _, rfl, p, _, _, 2, rfl, rfl, pen.pen, rfl, _, rfl, ?_⟩⟩
      exact k _ i _ _ (But.refl _ _).upd ⟨upd_same, by rw [upd_ne hcp]; exact pen.cells, pen.lo, pen.few⟩ (Int.le_refl _) (by omega) (Int.emod_nonneg _ (by omega)) (Int.emod_lt_of_pos _ (by omega))
    · refine ⟨_, rfl, p, _, _, _, rfl, rfl, hlp, rfl, ?_⟩
      refine ⟨_, rfl, _, _, rfl, rfl, _, rfl, p, _, _, 1, rfl, rfl, pen.pen, rfl, ?_⟩
      have e1 : ([V.ref c, V.int i, V.int r].set 1 (V.int (i + 1))) = [V.ref c, V.int (i + 1), V.int r] := rfl
      rw [e1]
      generalize hH1 : upd H p (HO.lst [V.ref c, V.int (i + 1), V.int r]) = H1
      have h1p : H1 p = some (.lst [.ref c, .int (i + 1), .int r]) := by rw [← hH1]; exact upd_same
      have h1c : H1 c = some (.lst (ns.map V.int)) := by rw [← hH1, upd_ne hcp]; exact pen.cells
      have hl1 : SqL K H1 p [.ref c, .int (i + 1), .int r] := SqL.of h1p
      have b1 : But p H H1 := by rw [← hH1]; exact (But.refl _ _).upd
      refine ⟨_, rfl, _, _, rfl, rfl, .inl ⟨by decide, by decide⟩, _, _, rfl, rfl, ?_⟩
      refine ⟨fun σ' H' => ∃ cell : Int, σ' = [some (.ref p), some (.int many), none, some (.int i), some (.int cell), none, none] ∧ But p H H' ∧
        H' p = some (.lst [.ref c, .int (i + 1), .int r]) ∧ H' c = some (.lst (ns.map V.int)), ?_, ?_⟩
      · refine ⟨_, rfl, p, _, _, _, rfl, rfl, hl1, rfl, Nat.zero_le _, fun q hq => ?_⟩
        have npq : p ≠ q := ne_of_none h1p hq
        have ncq : c ≠ q := ne_of_none h1c hq
        have h2p : upd H1 q (.lst []) p = some (.lst [.ref c, .int (i + 1), .int r]) := by rw [upd_ne npq]; exact h1p
        have h2c : upd H1 q (.lst []) c = some (.lst (ns.map V.int)) := by rw [upd_ne ncq]; exact h1c
        have b2 : But p H (upd H1 q (.lst [])) := b1.new hq
        refine ⟨PyData.list (ns.map PyData.int), PyData.list [], .lst (SqL.of h2c) (dp_ints ns), .lst (SqL.of upd_same) .nil, shaped_ints ns, rfl, _, rfl, ?_⟩
        refine ite2 (fun g => ?_) (fun g => ?_)
        · have hne : 0 < ns.length := by
            cases ns with
            | nil => exact absurd g (by decide)
            | cons a t => exact Nat.succ_pos _
          refine ⟨_, rfl, p, _, _, _, rfl, rfl, SqL.of h2p, rfl, _, rfl, .inl ⟨_, rfl, _, rfl, p, _, _, _, rfl, rfl, SqL.of h2p, rfl, c, _, rfl, .inl (SqL.of h2c), _, _, rfl, rfl, ?_, ?_⟩⟩
          · show (0 : Int) < ((ns.map V.int).length : Int)
            rw [List.length_map]
            omega
          · have l1 : 0 ≤ i % (ns.length : Int) := Int.emod_nonneg _ (by omega)
            have l2 : i % (ns.length : Int) < (ns.length : Int) := Int.emod_lt_of_pos _ (by omega)
            obtain ⟨j, ej⟩ : ∃ j : Nat, i % (ns.length : Int) = (j : Int) := ⟨_, (Int.toNat_of_nonneg l1).symm⟩
            have hj : j < ns.length := by omega
            refine ⟨c, _, _, .int ns[j], rfl, rfl, SqL.of h2c, ?_, ns[j], rfl, b2, h2p, h2c⟩
            show atI (ns.map V.int) (i % ((ns.map V.int).length : Int)) = some (.int ns[j])
            rw [List.length_map, ej]
            exact atI_nat (by rw [List.getElem?_map, List.getElem?_eq_getElem hj]; rfl)
        · exact ⟨_, rfl, b2, h2p, h2c⟩
      · rintro σ' H' ⟨cell, rfl, b2, h2p, h2c⟩
        have lo := pen.lo
        have pen2 : ∀ r' : Int, Pen (upd H' p (.lst [.ref c, .int (i + 1), .int r'])) p c ns (i + 1) r' := fun r' => ⟨upd_same, by rw [upd_ne hcp]; exact h2c, by omega, pen.few⟩
        refine ⟨fun σ2 H3 => σ2 = [some (.ref p), some (.int many), none, some (.int i), some (.int cell), none, none] ∧ H3 = H', ?_, ?_⟩
        · refine ⟨_, rfl, _, rfl, p, _, _, _, rfl, rfl, SqL.of h2p, rfl, c, _, rfl, .inl (SqL.of h2c), _, _, rfl, rfl, _, rfl, ?_⟩
          refine ite2 (fun g1 => ?_) (fun g1 => ⟨rfl, rfl⟩)
          refine ⟨_, rfl, _, rfl, _, _, rfl, rfl, ⟨by decide, by decide, by decide⟩, _, _, rfl, rfl, _, rfl, ?_⟩
          refine ite2 (fun g2 => ?_) (fun g2 => ⟨rfl, rfl⟩)
          refine ⟨_, rfl, _, rfl, _, _, rfl, rfl, ⟨by decide, by decide, by decide⟩, _, _, rfl, rfl, _, _, rfl, rfl, .inl ⟨by decide, by decide⟩, _, rfl, _, _, rfl, rfl, .inr ⟨_, rfl, _, _, rfl, rfl, ?_⟩⟩
          refine ⟨_, rfl, .inl ⟨_, rfl, _, rfl, _, _, rfl, rfl, wide_div (b := 100) (by omega) (by omega) (by decide) (by decide), _, rfl, p, _, _, 2, rfl, rfl, h2p, rfl, ?_⟩⟩
          refine ⟨_, rfl, .inl ⟨_, rfl, _, rfl, _, _, rfl, rfl, (by show (0 : Int) < many; omega), ?_⟩⟩
          exact k _ (i + 1) _ _ b2.upd (pen2 _) (by omega) (by omega) (Int.emod_nonneg _ (by omega)) (Int.emod_lt_of_pos _ (by omega))
        · rintro σ2 H3 ⟨rfl, rfl⟩
          have p1 : (0 : Int) < 2147483563 := by decide
          have p2 : (0 : Int) < 2147483629 := by decide
          have p3 : (0 : Int) < 2147483587 := by decide
          have c1 := Int.emod_nonneg cell (Int.ne_of_gt p1)
          have c2 := Int.emod_lt_of_pos cell p1
          refine ⟨_, rfl, .inl ⟨_, rfl, _, _, rfl, rfl, p1, _, rfl, _, _, rfl, rfl, .inl ⟨by decide, by decide⟩, _, _, rfl, rfl, _, _, rfl, rfl, _, _, rfl, rfl, ⟨by decide, by decide, ?_⟩, .inl ⟨_, rfl, _, _, rfl, rfl, p2, ?_⟩⟩⟩
          · show (cell % 2147483563 + 46351 * i + 419).natAbs < 2 ^ 64
            omega
          · have d1 := Int.emod_nonneg ((cell % 2147483563 + 46351 * i + 419) ^ (5 : Int).toNat) (Int.ne_of_gt p2)
            have d2 := Int.emod_lt_of_pos ((cell % 2147483563 + 46351 * i + 419) ^ (5 : Int).toNat) p2
            obtain ⟨x, hx⟩ : ∃ x : Int, ((cell % 2147483563 + 46351 * i + 419) ^ (5 : Int).toNat) % 2147483629 = x := ⟨_, rfl⟩
            rw [hx] at d1 d2
            have x1 : 0 ≤ x * (2 * i + 157) := Int.mul_nonneg d1 (by omega)
            have x2 : x * (2 * i + 157) ≤ 2147483629 * 20157 := Int.mul_le_mul (by omega) (by omega) (by omega) (by decide)
            have x3 : 0 ≤ 52631 * i * i := Int.mul_nonneg (by omega) lo
            have x4 : 52631 * i * i ≤ 526310000 * 10000 := Int.mul_le_mul (by omega) hi lo (by decide)
            refine ⟨_, rfl, _, rfl, _, _, rfl, rfl, .inl ⟨by decide, by decide⟩, _, _, rfl, rfl, _, _, rfl, rfl, .inl ⟨by rw [hx]; omega, by rw [hx]; omega⟩,
              _, rfl, _, _, rfl, rfl, .inl ⟨by decide, by decide⟩, _, rfl, _, _, rfl, rfl, .inr ⟨by omega, by omega⟩, _, _, rfl, rfl, _, _, rfl, rfl, _, _, rfl, rfl, ⟨by decide, by decide, ?_⟩,
              .inl ⟨_, rfl, _, _, rfl, rfl, p3, ?_⟩⟩
            · show ((cell % 2147483563 + 46351 * i + 419) ^ (5 : Int).toNat % 2147483629 * (2 * i + 157) + 52631 * i * i + 97).natAbs < 2 ^ 64
              rw [hx]
              omega
            · refine ⟨_, rfl, _, _, rfl, rfl, ⟨by decide, by decide⟩, .inl ⟨_, rfl, _, rfl, _, _, rfl, rfl, (by show (0 : Int) < many; omega), ?_⟩⟩
              exact k _ (i + 1) r _ b2 ⟨h2p, h2c, by omega, pen.few⟩ (by omega) (by omega) (Int.emod_nonneg _ (by omega)) (Int.emod_lt_of_pos _ (by omega))
end
end NB
namespace NB
open PySem L2
/-- text * number -/
theorem op_mul_str {X : Cx} : OpR X (binaryOp .Mult) (fun x y H Q => ∃ (z : Str) (i : Int), x = .str z ∧ y = .int i ∧ z.length ≤ 16 ∧ 0 ≤ i ∧ i ≤ 1000 ∧ Q (.str (Txt.mul z i)) H) := by
  intro pins s σ H x y v u Q I rx ry h
  obtain ⟨z, i, rfl, rfl, h1, h2, h3, q⟩ := h
  obtain ⟨t, rfl⟩ := rx
  obtain ⟨t', rfl⟩ := ry
  exact PySem.W.KXi.mul rfl h1 (by omega) (by omega) fun t' k _ _ => ⟨.str _, H, I.tok _, ⟨_, rfl⟩, q⟩
/-- the heap without what stands at p -/
def hide (p : Addr) (H : Hp) : Hp := fun a => if a = p then none else H a
theorem hide_sub {p : Addr} {H : Hp} : ∀ a o, hide p H a = some o → H a = some o := fun a o h => by
  unfold hide at h
  split at h
  · cases h
  · exact h
theorem hide_of {p a : Addr} {H : Hp} {o : HO} (n : a ≠ p) (h : H a = some o) : hide p H a = some o := by
  unfold hide
  rw [if_neg n]
  exact h
theorem But.hide {p : Addr} {H H' : Hp} (b : But p H H') : ∀ a o, NB.hide p H a = some o → NB.hide p H' a = some o := fun a o h => by
  have n : a ≠ p := by
    intro z
    unfold NB.hide at h
    rw [if_pos z] at h
    cases h
  exact hide_of n (b a o n (hide_sub a o h))
/-- a drawn value: small data, apart from the pen -/
structure Small (d : PyData) : Prop where
  sh : d.showable = true
  dp : d.depth ≤ 10
  ln : d.shown.length ≤ 1000
def Thing (K : PySem.W.Frag) (p : Addr) (H : Hp) (v : V) : Prop := ∃ d, DR K (hide p H) v d ∧ Small d
theorem Thing.keep {K : PySem.W.Frag} {p : Addr} {H H' : Hp} {v : V} (t : Thing K p H v) (b : But p H H') : Thing K p H' v := by
  obtain ⟨d, h, s⟩ := t
  exact ⟨d, h.keep b.hide, s⟩

section
variable {P : Program} {w : World} {K : PySem.W.Frag} {mg : Str → Option Value} {base : Heap}
abbrev sPen : Stmt := top 30
theorem scPen : FnScope ["_law_script"] ["_law_script"] (defScope sPen) := ⟨rfl, rfl, rfl, by decide +kernel, rfl, by decide +kernel, by decide +kernel⟩
def spPen (K : PySem.W.Frag) : Sp := fun vs H Q _ => ∃ (a : Addr) (ns : List Int), vs = [.ref a] ∧ SqL K H a (ns.map V.int) ∧ ns.length ≤ 63 ∧
  ∀ (H' : Hp) (p c : Addr) (ms : List Int), Same H H' → H p = none → Pen H' p c ms 0 0 → Q (.ref p) H'
theorem cut_ints (ns : List Int) (lo hi : Option Int) : ∃ ms : List Int, cutV (ns.map V.int) lo hi = ms.map V.int ∧ ms.length ≤ ns.length := by
  refine ⟨(ns.drop (HT.sIx (ns.map V.int).length 0 lo)).take (HT.sIx (ns.map V.int).length (ns.map V.int).length hi - HT.sIx (ns.map V.int).length 0 lo), ?_, ?_⟩
  · unfold cutV
    rw [List.map_take, List.map_drop]
  · rw [List.length_take, List.length_drop]
    omega
theorem ok_pen {f : Addr} {fd : FuncData} (F : Fun K "_law_pen" "_law_pen" sPen f fd) (T : Bi mg) : FnOk P w K mg base CX0 1 f fd ["_law_script"] (spPen K) := by
  refine F.ok scPen (fun vs H Q E h => ?_) (fun cdv A outer s H vs Q E hr h => ?_)
  · obtain ⟨a, ns, rfl, _⟩ := h
    rfl
  · obtain ⟨a, ns, rfl, hs, hl, k⟩ := h
    refine ⟨_, pss_one (ps_ret (pe_lst (pa_cons (pe_callTy call_list_of (by rfl) T.list (by decide +kernel) (pa_cons (pe_slice sl_list (pv 0) po_none (po_some pe_int)) pa_nil)) (pa_cons pe_int (pa_cons pe_int pa_nil))))), ?_⟩
    obtain ⟨ms, em, lm⟩ := cut_ints ns none (some 63)
    refine ⟨_, rfl, _, rfl, a, _, rfl, hs, fun q hq => ?_⟩
    rw [em]
    refine ⟨q, _, rfl, .inl (SqL.of upd_same), fun c hc => ⟨(by show 3 ≤ sizeLine; decide), fun p hp => ?_⟩⟩
    have n1 : c ≠ p := fun z => by
      rw [z, ← z, upd_same] at hp
      cases hp
    have hp1 : upd H q (.lst (ms.map V.int)) p = none := by
      rw [upd_ne n1.symm] at hp
      exact hp
    have hp0 : H p = none := by
      by_cases z : p = q
      · rw [z, upd_same] at hp1
        cases hp1
      · rw [upd_ne z] at hp1
        exact hp1
    refine k _ p c ms (fun b o e => ?_) hp0 ⟨upd_same, ?_, Int.le_refl _, by omega⟩
    · have e1 : upd H q (.lst (ms.map V.int)) b = some o := by
        rw [upd_ne (ne_of_none e hq)]
        exact e
      have e2 : upd (upd H q (.lst (ms.map V.int))) c (.lst (ms.map V.int)) b = some o := by
        rw [upd_ne (ne_of_none e1 hc)]
        exact e1
      rw [upd_ne (ne_of_none e2 hp)]
      exact e2
    · rw [upd_ne n1]
      exact upd_same

abbrev sPick : Stmt := top 32
theorem scPick : FnScope ["_law_pen_here", "_law_some"] ["_law_pen_here", "_law_some"] (defScope sPick) := ⟨rfl, rfl, rfl, by decide +kernel, rfl, by decide +kernel, by decide +kernel⟩
def spPick : Sp := fun vs H Q _ => ∃ (p c l : Addr) (ns : List Int) (i r : Int) (xs : List V), vs = [.ref p, .ref l] ∧ Pen H p c ns i r ∧ i ≤ 10000 ∧ l ≠ p ∧ H l = some (.lst xs) ∧ 1 ≤ xs.length ∧ xs.length ≤ 1000 ∧
  ∀ (H' : Hp) (i' r' : Int) (v : V), But p H H' → Pen H' p c ns i' r' → i ≤ i' → i' ≤ i + 1 → v ∈ xs → Q v H'
structure DefOf (P : Program) (w : World) (K : PySem.W.Frag) (mg : Str → Option Value) (base : Heap) (x : Str) (k : Nat) (ps : List Str) (sp : Sp) : Prop where
  ex : ∃ (f : Addr) (fd : FuncData), FnOk P w K mg base CX0 k f fd ps sp ∧ mg x = some (.ref f) ∧ PySem.W.keepIn K (.ref f) = true ∧ Binds K fd ps []
theorem ok_pick {f : Addr} {fd : FuncData} (F : Fun K "_law_pick" "_law_pick" sPick f fd) (T : Bi mg) (D : DefOf P w K mg base "_law_draw" 1 ["_law_pen_here", "_law_many"] spDraw) :
    FnOk P w K mg base CX0 2 f fd ["_law_pen_here", "_law_some"] spPick := by
  obtain ⟨fD, fdD, FD, mD, kD, bD⟩ := D.ex
  refine F.ok scPick (fun vs H Q E h => ?_) (fun cdv A outer s H vs Q E hr h => ?_)
  · obtain ⟨p, c, l, ns, i, r, xs, rfl, _⟩ := h
    rfl
  · obtain ⟨p, c, l, ns, i, r, xs, rfl, pen, hi, nlp, hl, h1, h2, k⟩ := h
    refine ⟨_, pss_one (ps_ret (pe_ix ix_list (pv 1) (pe_call FD hr rfl mD kD bD .nil pass0 (pa_cons (pv 0) (pa_cons (pe_callB call_len_seq (by rfl) T.len PySem.boot_len (pa_cons (pv 1) pa_nil)) pa_nil))) (fun _ _ => rfl))), ?_⟩
    refine ⟨_, rfl, _, rfl, _, rfl, l, xs, rfl, .inl (SqL.of hl), p, c, ns, i, r, _, rfl, pen, hi, by omega, ?_, fun H' i' r' d b pen' g1 g2 d0 d1 => ?_⟩
    · exact Int.lt_of_le_of_lt (show (xs.length : Int) ≤ 1000 by omega) (by decide)
    · obtain ⟨j, ej⟩ : ∃ j : Nat, d = (j : Int) := ⟨d.toNat, (Int.toNat_of_nonneg d0).symm⟩
      have hj : j < xs.length := by omega
      refine ⟨l, xs, d, xs[j], rfl, rfl, SqL.of (b _ _ nlp hl), ?_, k H' i' r' _ b pen' g1 g2 (List.getElem_mem hj)⟩
      rw [ej]
      exact atI_nat (List.getElem?_eq_getElem hj)
end
end NB
namespace NB
open PySem L2
theorem fresh_upd {H : Hp} {a b : Addr} {o : HO} (h : upd H a o b = none) : b ≠ a ∧ H b = none := by
  by_cases z : b = a
  · rw [z, upd_same] at h
    cases h
  · rw [upd_ne z] at h
    exact ⟨z, h⟩
theorem Thing.at_ {K : PySem.W.Frag} {p : Addr} {H : Hp} {v : V} {d : PyData} (h : DR K (hide p H) v d) (s : Small d) : Thing K p H v := ⟨d, h, s⟩
section
variable {P : Program} {w : World} {K : PySem.W.Frag} {mg : Str → Option Value} {base : Heap}
abbrev sValue : Stmt := top 33
theorem scValue : FnScope ["_law_pen_here", "_law_some"] ["_law_pen_here"] (defScope sValue) := ⟨rfl, rfl, rfl, by decide +kernel, rfl, by decide +kernel, by decide +kernel⟩
def spValue (K : PySem.W.Frag) : Sp := fun vs H Q _ => ∃ (p c : Addr) (ns : List Int) (i r : Int), vs = [.ref p] ∧ Pen H p c ns i r ∧ i ≤ 9000 ∧
  ∀ (H' : Hp) (i' r' : Int) (v : V), But p H H' → Pen H' p c ns i' r' → i' ≤ i + 2 → Thing K p H' v → Q v H'
theorem ok_value {f : Addr} {fd : FuncData} (F : Fun K "_law_value" "_law_value" sValue f fd) (T : Bi mg) (D : DefOf P w K mg base "_law_draw" 1 ["_law_pen_here", "_law_many"] spDraw)
    (Dp : DefOf P w K mg base "_law_pick" 2 ["_law_pen_here", "_law_some"] spPick) : FnOk P w K mg base CX0 3 f fd ["_law_pen_here"] (spValue K) := by
  obtain ⟨fD, fdD, FD, mD, kD, bD⟩ := D.ex
  obtain ⟨fP, fdP, FP, mP, kP, bP⟩ := Dp.ex
  refine F.ok scValue (fun vs H Q E h => ?_) (fun cdv A outer s H vs Q E hr h => ?_)
  · obtain ⟨p, c, ns, i, r, rfl, _⟩ := h
    rfl
  · obtain ⟨p, c, ns, i, r, rfl, pen, hi, k⟩ := h
    refine ⟨_, pss_cons (ps_set (i := 1) scValue.nd rfl (.inl rfl) (pe_lst (pa_cons pe_non (pa_cons pe_bl (pa_cons pe_int (pa_cons (pe_un un_neg pe_int) (pa_cons (pe_op op_pow pe_int pe_int) (pa_cons pe_str (pa_cons pe_str
        (pa_cons (pe_tup (pa_cons pe_int (pa_cons pe_str pa_nil))) (pa_cons (pe_lstM (pa_cons pe_non pa_nil))
        (pa_cons (pe_disp (pps_cons pe_str (pe_lstM (pa_cons pe_int pa_nil)) pps_nil) (by rfl) (by rfl) (fun z => by cases z) (by decide)) (pa_cons (pe_op op_mul_str pe_str pe_int) (pa_cons (pe_tup pa_nil) pa_nil))))))))))))))
      (pss_cons (ps_set (i := 1) scValue.nd rfl (.inl rfl) (pe_op op_cat (pv 1) (pe_lst (pa_cons (pe_call FD (hr.mono (by decide)) rfl mD kD bD .nil pass0 (pa_cons (pv 0) (pa_cons (pe_op op_pow pe_int pe_int) pa_nil))) pa_nil))))
      (pss_one (ps_ret (pe_call FP hr rfl mP kP bP .nil pass0 (pa_cons (pv 0) (pa_cons (pv 1) pa_nil)))))), ?_⟩
    refine ⟨_, rfl, _, _, rfl, rfl, ⟨by decide, by decide, by decide⟩, ⟨by show 2 ≤ sizeLine; decide, fun t1 h1 => ⟨by show 1 ≤ sizeLine; decide, fun l1 h2 s2 => fun dd h3 => ⟨by show 1 ≤ sizeLine; decide, fun l2 h4 s4 => ⟨?_, [(Sum.inr "a", .ref l2)], rfl, (by show 1 ≤ 15; decide), ?_⟩⟩⟩⟩⟩
    · obtain ⟨n4, h4⟩ := fresh_upd h4
      rw [upd_ne n4.symm]
      exact upd_same
    · refine ⟨_, _, rfl, rfl, by decide, by decide, by decide, Nat.zero_le _, fun t2 h5 => ⟨by show 12 ≤ sizeLine; decide, fun L h6 => ?_⟩⟩
      obtain ⟨a21, h2⟩ := fresh_upd h2
      obtain ⟨a32, h3⟩ := fresh_upd h3
      obtain ⟨a31, h3⟩ := fresh_upd h3
      obtain ⟨a43, h4⟩ := fresh_upd h4
      obtain ⟨a42, h4⟩ := fresh_upd h4
      obtain ⟨a41, h4⟩ := fresh_upd h4
      obtain ⟨a53, h5⟩ := fresh_upd h5
      obtain ⟨a54, h5⟩ := fresh_upd h5
      obtain ⟨_, h5⟩ := fresh_upd h5
      obtain ⟨a52, h5⟩ := fresh_upd h5
      obtain ⟨a51, h5⟩ := fresh_upd h5
      obtain ⟨a65, h6⟩ := fresh_upd h6
      obtain ⟨a63, h6⟩ := fresh_upd h6
      obtain ⟨a64, h6⟩ := fresh_upd h6
      obtain ⟨_, h6⟩ := fresh_upd h6
      obtain ⟨a62, h6⟩ := fresh_upd h6
      obtain ⟨a61, h6⟩ := fresh_upd h6
      have p1 := ne_of_none pen.pen h1
      have p2 := ne_of_none pen.pen h2
      have p3 := ne_of_none pen.pen h3
      have p4 := ne_of_none pen.pen h4
      have p5 := ne_of_none pen.pen h5
      have p6 := ne_of_none pen.pen h6
      have c1 := ne_of_none pen.cells h1
      have c2 := ne_of_none pen.cells h2
      have c3 := ne_of_none pen.cells h3
      have c4 := ne_of_none pen.cells h4
      have c5 := ne_of_none pen.cells h5
      have c6 := ne_of_none pen.cells h6
      generalize hG : upd (upd (upd (upd (upd (upd (upd H t1 _) l1 _) dd _) l2 _) dd _) t2 _) L _ = G
      have gp : G p = some (.lst [.ref c, .int i, .int r]) := by rw [← hG]; simp [upd, p1, p2, p3, p4, p5, p6, pen.pen]
      have gc : G c = some (.lst (ns.map V.int)) := by rw [← hG]; simp [upd, c1, c2, c3, c4, c5, c6, pen.cells]
      have g1 : G t1 = some (.tup [.int 1, .str "a"]) := by rw [← hG]; simp [upd, a21.symm, a31.symm, a41.symm, a51.symm, a61.symm]
      have g2 : G l1 = some (.lst [.non]) := by rw [← hG]; simp [upd, a32.symm, a42.symm, a52.symm, a62.symm]
      have g3 : G dd = some (.dK [(Sum.inr "a", .ref l2)]) := by rw [← hG]; simp [upd, a53.symm, a63.symm, mergeK, putK]
      have g4 : G l2 = some (.lst [.int 1]) := by rw [← hG]; simp [upd, a43, a54.symm, a64.symm]
      have g5 : G t2 = some (.tup []) := by rw [← hG]; simp [upd, a65.symm]
      have g6 : G L = some (.lst [.non, .bl true, .int 0, .int (-7), .int (10 ^ (59 : Int).toNat), .str "", .str "name", .ref t1, .ref l1, .ref dd, .str (Txt.mul "x" 40), .ref t2]) := by rw [← hG]; exact upd_same
      have keep : But p H G := fun b o _ e => by
        rw [← hG]
        simp [upd, ne_of_none e h1, ne_of_none e h2, ne_of_none e h3, ne_of_none e h4, ne_of_none e h5, ne_of_none e h6, e]
      clear hG
      have penG : Pen G p c ns i r := ⟨gp, gc, pen.lo, pen.few⟩
      have th : ∀ v ∈ [V.non, .bl true, .int 0, .int (-7), .int (10 ^ (59 : Int).toNat), .str "", .str "name", .ref t1, .ref l1, .ref dd, .str (Txt.mul "x" 40), .ref t2], Thing K p G v := by
        intro v hv
        simp only [List.mem_cons, List.mem_nil_iff, or_false] at hv
        rcases hv with rfl | rfl | rfl | rfl | rfl | rfl | rfl | rfl | rfl | rfl | rfl | rfl
        · exact ⟨.none, .non, by decide +kernel, by decide +kernel, by decide +kernel⟩
        · exact ⟨.bool true, .bl true, by decide +kernel, by decide +kernel, by decide +kernel⟩
        · exact ⟨.int 0, .int 0, by decide +kernel, by decide +kernel, by decide +kernel⟩
        · exact ⟨.int (-7), .int (-7), by decide +kernel, by decide +kernel, by decide +kernel⟩
        · exact ⟨.int (10 ^ 59), .int (10 ^ 59), by decide +kernel, by decide +kernel, by decide +kernel⟩
        · exact ⟨.str "", .str "", by decide +kernel, by decide +kernel, by decide +kernel⟩
        · exact ⟨.str "name", .str "name", by decide +kernel, by decide +kernel, by decide +kernel⟩
        · exact ⟨.tuple [.int 1, .str "a"], .tup (.inl (.inl (hide_of p1.symm g1))) (.cons (.int 1) (.cons (.str "a") .nil)), by decide +kernel, by decide +kernel, by decide +kernel⟩
        · exact ⟨.list [.none], .lst s2 (.inl (.inl (hide_of p2.symm g2))) (.cons .non .nil), by decide +kernel, by decide +kernel, by decide +kernel⟩
        · exact ⟨.dict [(.str "a", .list [.int 1])], .dct (kvs := [(Sum.inr "a", .ref l2)]) (hide_of p3.symm g3) (.cons (.lst s4 (.inl (.inl (hide_of p4.symm g4))) (.cons (.int 1) .nil)) .nil), by decide +kernel, by decide +kernel, by decide +kernel⟩
        · exact ⟨.str (Txt.mul "x" 40), .str _, by decide +kernel, by decide +kernel, by decide +kernel⟩
        · exact ⟨.tuple [], .tup (.inl (.inl (hide_of p5.symm g5))) .nil, by decide +kernel, by decide +kernel, by decide +kernel⟩
      refine ⟨_, rfl, _, rfl, _, _, rfl, rfl, ⟨by decide, by decide, by decide⟩, p, c, ns, i, r, _, rfl, penG, by omega, by decide, by decide, fun G2 i2 r2 d b2 pen2 e1 e2 d0 d1 => ?_⟩
      refine ⟨by show 1 ≤ sizeLine; decide, fun q hq => ?_⟩
      have nq : L ≠ q := ne_of_none (b2 _ _ p6.symm g6) hq
      refine ⟨L, q, _, _, rfl, rfl, (by rw [upd_ne nq]; exact b2 _ _ p6.symm g6), upd_same, (by show 13 ≤ sizeLine; decide), fun M hM => ?_⟩
      obtain ⟨nM, hM2⟩ := fresh_upd hM
      have b3 : But p G (upd (upd G2 q (.lst [.int d])) M (.lst ([.non, .bl true, .int 0, .int (-7), .int (10 ^ (59 : Int).toNat), .str "", .str "name", .ref t1, .ref l1, .ref dd, .str (Txt.mul "x" 40), .ref t2] ++ [.int d]))) := (b2.new hq).new hM
      have npq := ne_of_none pen2.pen hq
      have npM := ne_of_none pen2.pen hM2
      refine ⟨_, rfl, _, rfl, p, c, M, ns, i2, r2, _, rfl, ⟨?_, ?_, pen2.lo, pen2.few⟩, by omega, npM.symm, upd_same, by show 1 ≤ 13; decide, by show 13 ≤ 1000; decide, fun H' i' r' v b' pen' e3 e4 hv => ?_⟩
      · rw [upd_ne npM, upd_ne npq]
        exact pen2.pen
      · rw [upd_ne (ne_of_none pen2.cells hM2), upd_ne (ne_of_none pen2.cells hq)]
        exact pen2.cells
      · refine k H' i' r' v (keep.trans (b3.trans b')) pen' (by omega) ?_
        rcases List.mem_append.mp hv with hv | hv
        · exact (th v hv).keep (b3.trans b')
        · have e : v = .int d := by simpa using hv
          subst e
          have hd9 : d < 10 ^ 9 := d1
          refine ⟨.int d, .int d, decide_eq_true (Nat.lt_of_lt_of_le (PySem.Flt.log2_lt_of (n := d.natAbs) (k := 40) (by decide) (by omega)) (by decide)), by show 0 ≤ 10; decide, ?_⟩
          show (Str.ofString (toString d)).length ≤ 1000
          exact Nat.le_trans (PyProof.Rows.toString_length_le d0 (k := 9) (by decide) hd9) (by decide)
end
end NB
namespace NB
open PySem L2
/-- what the __init__ of an error of the package does: it keeps its fields -/
def spI (C : Addr) (fl : List Str) : Sp := fun vs H Q _ => ∃ (a : Addr) (ws : List V), vs = .ref a :: ws ∧ ws.length = fl.length ∧ H a = some (exo a C none) ∧
  ∀ (H' : Hp) (d : Addr), But a H H' → H d = none → H' a = some (exo a C (some d)) → H' d = some (exd d (fl.zip ws).reverse) → Q .non H'
def KwB (fd : FuncData) (fl : List Str) : Prop := ∀ (s' : Shared) (u : Value) (ws : List Value), ws.length = fl.length → BindsTo s' fd ⟨[u], fl.reverse.zip ws⟩ ((("self" : Str) :: fl).zip (u :: ws.reverse))
structure Err (P : Program) (w : World) (K : PySem.W.Frag) (mg : Str → Option Value) (base : Heap) (x : Str) (fl : List Str) (C : Addr) : Prop where
  mgC : mg x = some (.ref C)
  oex : OexC K C
  xf : XfC K C
  ec : ExcC K C
  nf : ∀ f ∈ fl, PySem.W.findIn K (.ref C) f = some none
  ini : ∃ (fI : Addr) (fd : FuncData), PySem.W.findIn K (.ref C) "__init__" = some (some (.ref fI)) ∧ PySem.W.typeIn K (.ref fI) = some (.type "function") ∧
    FnOk P w K mg base CX0 1 fI fd ("self" :: fl) (spI C fl) ∧ Binds K fd ("self" :: fl) [] ∧ KwB fd fl
theorem mk_err {C : Addr} {fl : List Str} {ws : List V} {H : Hp} {Q : VK} (hl : ws.length = fl.length) (hz : fl.length ≤ 1000)
    (h : ∀ (H' : Hp) (a d : Addr), Same H H' → H a = none → H' a = some (exo a C (some d)) → H' d = some (exd d (fl.zip ws).reverse) → Q (.ref a) H') :
    ws.length ≤ 1000 ∧ ∀ a, H a = none → spI C fl (.ref a :: ws) (upd H a (exo a C none)) (fun v H2 => v = .non ∧ Q (.ref a) H2) E0 := by
  refine ⟨by omega, fun a ha => ⟨a, ws, rfl, hl, upd_same, fun H' d b hd ea ed => ⟨rfl, ?_⟩⟩⟩
  refine h H' a d (fun x o e => ?_) ha ea ed
  have n := ne_of_none e ha
  exact b x o n (by rw [upd_ne n]; exact e)
section
variable {P : Program} {w : World} {K : PySem.W.Frag} {mg : Str → Option Value} {base : Heap}
abbrev sIBadLengths : Stmt := inClass (top 3) 0
theorem scIBadLengths : FnScope ["self", "part"] ["self", "part"] (defScope sIBadLengths) := ⟨rfl, rfl, rfl, by decide +kernel, rfl, by decide +kernel, by decide +kernel⟩
theorem okIBadLengths {f C : Addr} {fd : FuncData} (F : Fun K "__init__" "BadLengths.__init__" sIBadLengths f fd) (T : OexC K C) (hn : PySem.W.findIn K (.ref C) "part" = some none) :
    FnOk P w K mg base CX0 1 f fd ["self", "part"] (spI C ["part"]) ∧ Binds K fd ["self", "part"] [] ∧ KwB fd ["part"] := by
  refine ⟨F.ok scIBadLengths (fun vs H Q E h => ?_) (fun cdv A outer s H vs Q E hr h => ?_), F.binds (fun _ _ _ _ _ _ us hl => match us, hl with | [_, _], _ => rfl), ?_⟩
  · obtain ⟨a, ws, rfl, hl, _⟩ := h
    rw [List.length_cons, hl]
    rfl
  · obtain ⟨a, ws, rfl, hl, ha, k⟩ := h
    match ws, hl with
    | [v], _ =>
      refine ⟨_, pss_one (ps_ost (pv 0) (pv 1)), ?_⟩
      refine ⟨_, rfl, _, rfl, a, C, rfl, T, hn, .inl ⟨ha, fun dx hdx ne => ?_⟩⟩
      exact k _ dx (fun b o n e => by rw [upd_ne n, upd_ne (ne_of_none e hdx)]; exact e) hdx upd_same (by rw [upd_ne ne]; exact upd_same)
  · obtain ⟨oc, od, kV, doc, pm, an, cdv, ct, osl, rfl, _, _⟩ := F.ex
    intro s' u ws hl
    match ws, hl with
    | [_], _ => exact .of_eq rfl
abbrev sIBadDays : Stmt := inClass (top 4) 0
theorem scIBadDays : FnScope ["self", "part"] ["self", "part"] (defScope sIBadDays) := ⟨rfl, rfl, rfl, by decide +kernel, rfl, by decide +kernel, by decide +kernel⟩
theorem okIBadDays {f C : Addr} {fd : FuncData} (F : Fun K "__init__" "BadDays.__init__" sIBadDays f fd) (T : OexC K C) (hn : PySem.W.findIn K (.ref C) "part" = some none) :
    FnOk P w K mg base CX0 1 f fd ["self", "part"] (spI C ["part"]) ∧ Binds K fd ["self", "part"] [] ∧ KwB fd ["part"] := by
  refine ⟨F.ok scIBadDays (fun vs H Q E h => ?_) (fun cdv A outer s H vs Q E hr h => ?_), F.binds (fun _ _ _ _ _ _ us hl => match us, hl with | [_, _], _ => rfl), ?_⟩
  · obtain ⟨a, ws, rfl, hl, _⟩ := h
    rw [List.length_cons, hl]
    rfl
  · obtain ⟨a, ws, rfl, hl, ha, k⟩ := h
    match ws, hl with
    | [v], _ =>
      refine ⟨_, pss_one (ps_ost (pv 0) (pv 1)), ?_⟩
      refine ⟨_, rfl, _, rfl, a, C, rfl, T, hn, .inl ⟨ha, fun dx hdx ne => ?_⟩⟩
      exact k _ dx (fun b o n e => by rw [upd_ne n, upd_ne (ne_of_none e hdx)]; exact e) hdx upd_same (by rw [upd_ne ne]; exact upd_same)
  · obtain ⟨oc, od, kV, doc, pm, an, cdv, ct, osl, rfl, _, _⟩ := F.ex
    intro s' u ws hl
    match ws, hl with
    | [_], _ => exact .of_eq rfl
abbrev sIBadStay : Stmt := inClass (top 5) 0
theorem scIBadStay : FnScope ["self", "part"] ["self", "part"] (defScope sIBadStay) := ⟨rfl, rfl, rfl, by decide +kernel, rfl, by decide +kernel, by decide +kernel⟩
theorem okIBadStay {f C : Addr} {fd : FuncData} (F : Fun K "__init__" "BadStay.__init__" sIBadStay f fd) (T : OexC K C) (hn : PySem.W.findIn K (.ref C) "part" = some none) :
    FnOk P w K mg base CX0 1 f fd ["self", "part"] (spI C ["part"]) ∧ Binds K fd ["self", "part"] [] ∧ KwB fd ["part"] := by
  refine ⟨F.ok scIBadStay (fun vs H Q E h => ?_) (fun cdv A outer s H vs Q E hr h => ?_), F.binds (fun _ _ _ _ _ _ us hl => match us, hl with | [_, _], _ => rfl), ?_⟩
  · obtain ⟨a, ws, rfl, hl, _⟩ := h
    rw [List.length_cons, hl]
    rfl
  · obtain ⟨a, ws, rfl, hl, ha, k⟩ := h
    match ws, hl with
    | [v], _ =>
      refine ⟨_, pss_one (ps_ost (pv 0) (pv 1)), ?_⟩
      refine ⟨_, rfl, _, rfl, a, C, rfl, T, hn, .inl ⟨ha, fun dx hdx ne => ?_⟩⟩
      exact k _ dx (fun b o n e => by rw [upd_ne n, upd_ne (ne_of_none e hdx)]; exact e) hdx upd_same (by rw [upd_ne ne]; exact upd_same)
  · obtain ⟨oc, od, kV, doc, pm, an, cdv, ct, osl, rfl, _, _⟩ := F.ex
    intro s' u ws hl
    match ws, hl with
    | [_], _ => exact .of_eq rfl
abbrev sIBadRule : Stmt := inClass (top 6) 0
theorem scIBadRule : FnScope ["self", "part"] ["self", "part"] (defScope sIBadRule) := ⟨rfl, rfl, rfl, by decide +kernel, rfl, by decide +kernel, by decide +kernel⟩
theorem okIBadRule {f C : Addr} {fd : FuncData} (F : Fun K "__init__" "BadRule.__init__" sIBadRule f fd) (T : OexC K C) (hn : PySem.W.findIn K (.ref C) "part" = some none) :
    FnOk P w K mg base CX0 1 f fd ["self", "part"] (spI C ["part"]) ∧ Binds K fd ["self", "part"] [] ∧ KwB fd ["part"] := by
  refine ⟨F.ok scIBadRule (fun vs H Q E h => ?_) (fun cdv A outer s H vs Q E hr h => ?_), F.binds (fun _ _ _ _ _ _ us hl => match us, hl with | [_, _], _ => rfl), ?_⟩
  · obtain ⟨a, ws, rfl, hl, _⟩ := h
    rw [List.length_cons, hl]
    rfl
  · obtain ⟨a, ws, rfl, hl, ha, k⟩ := h
    match ws, hl with
    | [v], _ =>
      refine ⟨_, pss_one (ps_ost (pv 0) (pv 1)), ?_⟩
      refine ⟨_, rfl, _, rfl, a, C, rfl, T, hn, .inl ⟨ha, fun dx hdx ne => ?_⟩⟩
      exact k _ dx (fun b o n e => by rw [upd_ne n, upd_ne (ne_of_none e hdx)]; exact e) hdx upd_same (by rw [upd_ne ne]; exact upd_same)
  · obtain ⟨oc, od, kV, doc, pm, an, cdv, ct, osl, rfl, _, _⟩ := F.ex
    intro s' u ws hl
    match ws, hl with
    | [_], _ => exact .of_eq rfl
abbrev sIBadBook : Stmt := inClass (top 7) 0
theorem scIBadBook : FnScope ["self", "part"] ["self", "part"] (defScope sIBadBook) := ⟨rfl, rfl, rfl, by decide +kernel, rfl, by decide +kernel, by decide +kernel⟩
theorem okIBadBook {f C : Addr} {fd : FuncData} (F : Fun K "__init__" "BadBook.__init__" sIBadBook f fd) (T : OexC K C) (hn : PySem.W.findIn K (.ref C) "part" = some none) :
    FnOk P w K mg base CX0 1 f fd ["self", "part"] (spI C ["part"]) ∧ Binds K fd ["self", "part"] [] ∧ KwB fd ["part"] := by
  refine ⟨F.ok scIBadBook (fun vs H Q E h => ?_) (fun cdv A outer s H vs Q E hr h => ?_), F.binds (fun _ _ _ _ _ _ us hl => match us, hl with | [_, _], _ => rfl), ?_⟩
  · obtain ⟨a, ws, rfl, hl, _⟩ := h
    rw [List.length_cons, hl]
    rfl
  · obtain ⟨a, ws, rfl, hl, ha, k⟩ := h
    match ws, hl with
    | [v], _ =>
      refine ⟨_, pss_one (ps_ost (pv 0) (pv 1)), ?_⟩
      refine ⟨_, rfl, _, rfl, a, C, rfl, T, hn, .inl ⟨ha, fun dx hdx ne => ?_⟩⟩
      exact k _ dx (fun b o n e => by rw [upd_ne n, upd_ne (ne_of_none e hdx)]; exact e) hdx upd_same (by rw [upd_ne ne]; exact upd_same)
  · obtain ⟨oc, od, kV, doc, pm, an, cdv, ct, osl, rfl, _, _⟩ := F.ex
    intro s' u ws hl
    match ws, hl with
    | [_], _ => exact .of_eq rfl
abbrev sIBadStretch : Stmt := inClass (top 8) 0
theorem scIBadStretch : FnScope ["self", "part"] ["self", "part"] (defScope sIBadStretch) := ⟨rfl, rfl, rfl, by decide +kernel, rfl, by decide +kernel, by decide +kernel⟩
theorem okIBadStretch {f C : Addr} {fd : FuncData} (F : Fun K "__init__" "BadStretch.__init__" sIBadStretch f fd) (T : OexC K C) (hn : PySem.W.findIn K (.ref C) "part" = some none) :
    FnOk P w K mg base CX0 1 f fd ["self", "part"] (spI C ["part"]) ∧ Binds K fd ["self", "part"] [] ∧ KwB fd ["part"] := by
  refine ⟨F.ok scIBadStretch (fun vs H Q E h => ?_) (fun cdv A outer s H vs Q E hr h => ?_), F.binds (fun _ _ _ _ _ _ us hl => match us, hl with | [_, _], _ => rfl), ?_⟩
  · obtain ⟨a, ws, rfl, hl, _⟩ := h
    rw [List.length_cons, hl]
    rfl
  · obtain ⟨a, ws, rfl, hl, ha, k⟩ := h
    match ws, hl with
    | [v], _ =>
      refine ⟨_, pss_one (ps_ost (pv 0) (pv 1)), ?_⟩
      refine ⟨_, rfl, _, rfl, a, C, rfl, T, hn, .inl ⟨ha, fun dx hdx ne => ?_⟩⟩
      exact k _ dx (fun b o n e => by rw [upd_ne n, upd_ne (ne_of_none e hdx)]; exact e) hdx upd_same (by rw [upd_ne ne]; exact upd_same)
  · obtain ⟨oc, od, kV, doc, pm, an, cdv, ct, osl, rfl, _, _⟩ := F.ex
    intro s' u ws hl
    match ws, hl with
    | [_], _ => exact .of_eq rfl
abbrev sIBadCalendar : Stmt := inClass (top 9) 0
theorem scIBadCalendar : FnScope ["self", "part"] ["self", "part"] (defScope sIBadCalendar) := ⟨rfl, rfl, rfl, by decide +kernel, rfl, by decide +kernel, by decide +kernel⟩
theorem okIBadCalendar {f C : Addr} {fd : FuncData} (F : Fun K "__init__" "BadCalendar.__init__" sIBadCalendar f fd) (T : OexC K C) (hn : PySem.W.findIn K (.ref C) "part" = some none) :
    FnOk P w K mg base CX0 1 f fd ["self", "part"] (spI C ["part"]) ∧ Binds K fd ["self", "part"] [] ∧ KwB fd ["part"] := by
  refine ⟨F.ok scIBadCalendar (fun vs H Q E h => ?_) (fun cdv A outer s H vs Q E hr h => ?_), F.binds (fun _ _ _ _ _ _ us hl => match us, hl with | [_, _], _ => rfl), ?_⟩
  · obtain ⟨a, ws, rfl, hl, _⟩ := h
    rw [List.length_cons, hl]
    rfl
  · obtain ⟨a, ws, rfl, hl, ha, k⟩ := h
    match ws, hl with
    | [v], _ =>
      refine ⟨_, pss_one (ps_ost (pv 0) (pv 1)), ?_⟩
      refine ⟨_, rfl, _, rfl, a, C, rfl, T, hn, .inl ⟨ha, fun dx hdx ne => ?_⟩⟩
      exact k _ dx (fun b o n e => by rw [upd_ne n, upd_ne (ne_of_none e hdx)]; exact e) hdx upd_same (by rw [upd_ne ne]; exact upd_same)
  · obtain ⟨oc, od, kV, doc, pm, an, cdv, ct, osl, rfl, _, _⟩ := F.ex
    intro s' u ws hl
    match ws, hl with
    | [_], _ => exact .of_eq rfl
abbrev sIBadDoor : Stmt := inClass (top 10) 0
theorem scIBadDoor : FnScope ["self", "part"] ["self", "part"] (defScope sIBadDoor) := ⟨rfl, rfl, rfl, by decide +kernel, rfl, by decide +kernel, by decide +kernel⟩
theorem okIBadDoor {f C : Addr} {fd : FuncData} (F : Fun K "__init__" "BadDoor.__init__" sIBadDoor f fd) (T : OexC K C) (hn : PySem.W.findIn K (.ref C) "part" = some none) :
    FnOk P w K mg base CX0 1 f fd ["self", "part"] (spI C ["part"]) ∧ Binds K fd ["self", "part"] [] ∧ KwB fd ["part"] := by
  refine ⟨F.ok scIBadDoor (fun vs H Q E h => ?_) (fun cdv A outer s H vs Q E hr h => ?_), F.binds (fun _ _ _ _ _ _ us hl => match us, hl with | [_, _], _ => rfl), ?_⟩
  · obtain ⟨a, ws, rfl, hl, _⟩ := h
    rw [List.length_cons, hl]
    rfl
  · obtain ⟨a, ws, rfl, hl, ha, k⟩ := h
    match ws, hl with
    | [v], _ =>
      refine ⟨_, pss_one (ps_ost (pv 0) (pv 1)), ?_⟩
      refine ⟨_, rfl, _, rfl, a, C, rfl, T, hn, .inl ⟨ha, fun dx hdx ne => ?_⟩⟩
      exact k _ dx (fun b o n e => by rw [upd_ne n, upd_ne (ne_of_none e hdx)]; exact e) hdx upd_same (by rw [upd_ne ne]; exact upd_same)
  · obtain ⟨oc, od, kV, doc, pm, an, cdv, ct, osl, rfl, _, _⟩ := F.ex
    intro s' u ws hl
    match ws, hl with
    | [_], _ => exact .of_eq rfl
abbrev sIBadName : Stmt := inClass (top 11) 0
theorem scIBadName : FnScope ["self", "value"] ["self", "value"] (defScope sIBadName) := ⟨rfl, rfl, rfl, by decide +kernel, rfl, by decide +kernel, by decide +kernel⟩
theorem okIBadName {f C : Addr} {fd : FuncData} (F : Fun K "__init__" "BadName.__init__" sIBadName f fd) (T : OexC K C) (hn : PySem.W.findIn K (.ref C) "value" = some none) :
    FnOk P w K mg base CX0 1 f fd ["self", "value"] (spI C ["value"]) ∧ Binds K fd ["self", "value"] [] ∧ KwB fd ["value"] := by
  refine ⟨F.ok scIBadName (fun vs H Q E h => ?_) (fun cdv A outer s H vs Q E hr h => ?_), F.binds (fun _ _ _ _ _ _ us hl => match us, hl with | [_, _], _ => rfl), ?_⟩
  · obtain ⟨a, ws, rfl, hl, _⟩ := h
    rw [List.length_cons, hl]
    rfl
  · obtain ⟨a, ws, rfl, hl, ha, k⟩ := h
    match ws, hl with
    | [v], _ =>
      refine ⟨_, pss_one (ps_ost (pv 0) (pv 1)), ?_⟩
      refine ⟨_, rfl, _, rfl, a, C, rfl, T, hn, .inl ⟨ha, fun dx hdx ne => ?_⟩⟩
      exact k _ dx (fun b o n e => by rw [upd_ne n, upd_ne (ne_of_none e hdx)]; exact e) hdx upd_same (by rw [upd_ne ne]; exact upd_same)
  · obtain ⟨oc, od, kV, doc, pm, an, cdv, ct, osl, rfl, _, _⟩ := F.ex
    intro s' u ws hl
    match ws, hl with
    | [_], _ => exact .of_eq rfl
abbrev sIBadCount : Stmt := inClass (top 12) 0
theorem scIBadCount : FnScope ["self", "value"] ["self", "value"] (defScope sIBadCount) := ⟨rfl, rfl, rfl, by decide +kernel, rfl, by decide +kernel, by decide +kernel⟩
theorem okIBadCount {f C : Addr} {fd : FuncData} (F : Fun K "__init__" "BadCount.__init__" sIBadCount f fd) (T : OexC K C) (hn : PySem.W.findIn K (.ref C) "value" = some none) :
    FnOk P w K mg base CX0 1 f fd ["self", "value"] (spI C ["value"]) ∧ Binds K fd ["self", "value"] [] ∧ KwB fd ["value"] := by
  refine ⟨F.ok scIBadCount (fun vs H Q E h => ?_) (fun cdv A outer s H vs Q E hr h => ?_), F.binds (fun _ _ _ _ _ _ us hl => match us, hl with | [_, _], _ => rfl), ?_⟩
  · obtain ⟨a, ws, rfl, hl, _⟩ := h
    rw [List.length_cons, hl]
    rfl
  · obtain ⟨a, ws, rfl, hl, ha, k⟩ := h
    match ws, hl with
    | [v], _ =>
      refine ⟨_, pss_one (ps_ost (pv 0) (pv 1)), ?_⟩
      refine ⟨_, rfl, _, rfl, a, C, rfl, T, hn, .inl ⟨ha, fun dx hdx ne => ?_⟩⟩
      exact k _ dx (fun b o n e => by rw [upd_ne n, upd_ne (ne_of_none e hdx)]; exact e) hdx upd_same (by rw [upd_ne ne]; exact upd_same)
  · obtain ⟨oc, od, kV, doc, pm, an, cdv, ct, osl, rfl, _, _⟩ := F.ex
    intro s' u ws hl
    match ws, hl with
    | [_], _ => exact .of_eq rfl
abbrev sIBadWish : Stmt := inClass (top 13) 0
theorem scIBadWish : FnScope ["self", "at"] ["self", "at"] (defScope sIBadWish) := ⟨rfl, rfl, rfl, by decide +kernel, rfl, by decide +kernel, by decide +kernel⟩
theorem okIBadWish {f C : Addr} {fd : FuncData} (F : Fun K "__init__" "BadWish.__init__" sIBadWish f fd) (T : OexC K C) (hn : PySem.W.findIn K (.ref C) "at" = some none) :
    FnOk P w K mg base CX0 1 f fd ["self", "at"] (spI C ["at"]) ∧ Binds K fd ["self", "at"] [] ∧ KwB fd ["at"] := by
  refine ⟨F.ok scIBadWish (fun vs H Q E h => ?_) (fun cdv A outer s H vs Q E hr h => ?_), F.binds (fun _ _ _ _ _ _ us hl => match us, hl with | [_, _], _ => rfl), ?_⟩
  · obtain ⟨a, ws, rfl, hl, _⟩ := h
    rw [List.length_cons, hl]
    rfl
  · obtain ⟨a, ws, rfl, hl, ha, k⟩ := h
    match ws, hl with
    | [v], _ =>
      refine ⟨_, pss_one (ps_ost (pv 0) (pv 1)), ?_⟩
      refine ⟨_, rfl, _, rfl, a, C, rfl, T, hn, .inl ⟨ha, fun dx hdx ne => ?_⟩⟩
      exact k _ dx (fun b o n e => by rw [upd_ne n, upd_ne (ne_of_none e hdx)]; exact e) hdx upd_same (by rw [upd_ne ne]; exact upd_same)
  · obtain ⟨oc, od, kV, doc, pm, an, cdv, ct, osl, rfl, _, _⟩ := F.ex
    intro s' u ws hl
    match ws, hl with
    | [_], _ => exact .of_eq rfl
abbrev sIBadRow : Stmt := inClass (top 14) 0
theorem scIBadRow : FnScope ["self", "at"] ["self", "at"] (defScope sIBadRow) := ⟨rfl, rfl, rfl, by decide +kernel, rfl, by decide +kernel, by decide +kernel⟩
theorem okIBadRow {f C : Addr} {fd : FuncData} (F : Fun K "__init__" "BadRow.__init__" sIBadRow f fd) (T : OexC K C) (hn : PySem.W.findIn K (.ref C) "at" = some none) :
    FnOk P w K mg base CX0 1 f fd ["self", "at"] (spI C ["at"]) ∧ Binds K fd ["self", "at"] [] ∧ KwB fd ["at"] := by
  refine ⟨F.ok scIBadRow (fun vs H Q E h => ?_) (fun cdv A outer s H vs Q E hr h => ?_), F.binds (fun _ _ _ _ _ _ us hl => match us, hl with | [_, _], _ => rfl), ?_⟩
  · obtain ⟨a, ws, rfl, hl, _⟩ := h
    rw [List.length_cons, hl]
    rfl
  · obtain ⟨a, ws, rfl, hl, ha, k⟩ := h
    match ws, hl with
    | [v], _ =>
      refine ⟨_, pss_one (ps_ost (pv 0) (pv 1)), ?_⟩
      refine ⟨_, rfl, _, rfl, a, C, rfl, T, hn, .inl ⟨ha, fun dx hdx ne => ?_⟩⟩
      exact k _ dx (fun b o n e => by rw [upd_ne n, upd_ne (ne_of_none e hdx)]; exact e) hdx upd_same (by rw [upd_ne ne]; exact upd_same)
  · obtain ⟨oc, od, kV, doc, pm, an, cdv, ct, osl, rfl, _, _⟩ := F.ex
    intro s' u ws hl
    match ws, hl with
    | [_], _ => exact .of_eq rfl
abbrev sIBadText : Stmt := inClass (top 15) 0
theorem scIBadText : FnScope ["self", "line", "word"] ["self", "line", "word"] (defScope sIBadText) := ⟨rfl, rfl, rfl, by decide +kernel, rfl, by decide +kernel, by decide +kernel⟩
theorem okIBadText {f C : Addr} {fd : FuncData} (F : Fun K "__init__" "BadText.__init__" sIBadText f fd) (T : OexC K C) (hn : PySem.W.findIn K (.ref C) "line" = some none) (hm : PySem.W.findIn K (.ref C) "word" = some none) :
    FnOk P w K mg base CX0 1 f fd ["self", "line", "word"] (spI C ["line", "word"]) ∧ Binds K fd ["self", "line", "word"] [] ∧ KwB fd ["line", "word"] := by
  refine ⟨F.ok scIBadText (fun vs H Q E h => ?_) (fun cdv A outer s H vs Q E hr h => ?_), F.binds (fun _ _ _ _ _ _ us hl => match us, hl with | [_, _, _], _ => rfl), ?_⟩
  · obtain ⟨a, ws, rfl, hl, _⟩ := h
    rw [List.length_cons, hl]
    rfl
  · obtain ⟨a, ws, rfl, hl, ha, k⟩ := h
    match ws, hl with
    | [v, v2], _ =>
      refine ⟨_, pss_cons (ps_ost (pv 0) (pv 1)) (pss_one (ps_ost (pv 0) (pv 2))), ?_⟩
      refine ⟨_, rfl, _, rfl, a, C, rfl, T, hn, .inl ⟨ha, fun dx hdx ne => ?_⟩⟩
      refine ⟨_, rfl, _, rfl, a, C, rfl, T, hm, .inr ⟨dx, _, upd_same, (by rw [upd_ne ne]; exact upd_same), (by show 1 ≤ 900; decide), ?_⟩⟩
      exact k _ dx (fun b o n e => by rw [upd_ne (ne_of_none e hdx), upd_ne n, upd_ne (ne_of_none e hdx)]; exact e) hdx (by rw [upd_ne ne.symm]; exact upd_same) upd_same
  · obtain ⟨oc, od, kV, doc, pm, an, cdv, ct, osl, rfl, _, _⟩ := F.ex
    intro s' u ws hl
    match ws, hl with
    | [_, _], _ => exact .of_eq rfl
abbrev sIBadLine : Stmt := inClass (top 16) 0
theorem scIBadLine : FnScope ["self", "word"] ["self", "word"] (defScope sIBadLine) := ⟨rfl, rfl, rfl, by decide +kernel, rfl, by decide +kernel, by decide +kernel⟩
theorem okIBadLine {f C : Addr} {fd : FuncData} (F : Fun K "__init__" "BadLine.__init__" sIBadLine f fd) (T : OexC K C) (hn : PySem.W.findIn K (.ref C) "word" = some none) :
    FnOk P w K mg base CX0 1 f fd ["self", "word"] (spI C ["word"]) ∧ Binds K fd ["self", "word"] [] ∧ KwB fd ["word"] := by
  refine ⟨F.ok scIBadLine (fun vs H Q E h => ?_) (fun cdv A outer s H vs Q E hr h => ?_), F.binds (fun _ _ _ _ _ _ us hl => match us, hl with | [_, _], _ => rfl), ?_⟩
  · obtain ⟨a, ws, rfl, hl, _⟩ := h
    rw [List.length_cons, hl]
    rfl
  · obtain ⟨a, ws, rfl, hl, ha, k⟩ := h
    match ws, hl with
    | [v], _ =>
      refine ⟨_, pss_one (ps_ost (pv 0) (pv 1)), ?_⟩
      refine ⟨_, rfl, _, rfl, a, C, rfl, T, hn, .inl ⟨ha, fun dx hdx ne => ?_⟩⟩
      exact k _ dx (fun b o n e => by rw [upd_ne n, upd_ne (ne_of_none e hdx)]; exact e) hdx upd_same (by rw [upd_ne ne]; exact upd_same)
  · obtain ⟨oc, od, kV, doc, pm, an, cdv, ct, osl, rfl, _, _⟩ := F.ex
    intro s' u ws hl
    match ws, hl with
    | [_], _ => exact .of_eq rfl
abbrev sITaken : Stmt := inClass (top 18) 0
theorem scITaken : FnScope ["self", "name"] ["self", "name"] (defScope sITaken) := ⟨rfl, rfl, rfl, by decide +kernel, rfl, by decide +kernel, by decide +kernel⟩
theorem okITaken {f C : Addr} {fd : FuncData} (F : Fun K "__init__" "Taken.__init__" sITaken f fd) (T : OexC K C) (hn : PySem.W.findIn K (.ref C) "name" = some none) :
    FnOk P w K mg base CX0 1 f fd ["self", "name"] (spI C ["name"]) ∧ Binds K fd ["self", "name"] [] ∧ KwB fd ["name"] := by
  refine ⟨F.ok scITaken (fun vs H Q E h => ?_) (fun cdv A outer s H vs Q E hr h => ?_), F.binds (fun _ _ _ _ _ _ us hl => match us, hl with | [_, _], _ => rfl), ?_⟩
  · obtain ⟨a, ws, rfl, hl, _⟩ := h
    rw [List.length_cons, hl]
    rfl
  · obtain ⟨a, ws, rfl, hl, ha, k⟩ := h
    match ws, hl with
    | [v], _ =>
      refine ⟨_, pss_one (ps_ost (pv 0) (pv 1)), ?_⟩
      refine ⟨_, rfl, _, rfl, a, C, rfl, T, hn, .inl ⟨ha, fun dx hdx ne => ?_⟩⟩
      exact k _ dx (fun b o n e => by rw [upd_ne n, upd_ne (ne_of_none e hdx)]; exact e) hdx upd_same (by rw [upd_ne ne]; exact upd_same)
  · obtain ⟨oc, od, kV, doc, pm, an, cdv, ct, osl, rfl, _, _⟩ := F.ex
    intro s' u ws hl
    match ws, hl with
    | [_], _ => exact .of_eq rfl
abbrev sINoGuest : Stmt := inClass (top 19) 0
theorem scINoGuest : FnScope ["self", "name"] ["self", "name"] (defScope sINoGuest) := ⟨rfl, rfl, rfl, by decide +kernel, rfl, by decide +kernel, by decide +kernel⟩
theorem okINoGuest {f C : Addr} {fd : FuncData} (F : Fun K "__init__" "NoGuest.__init__" sINoGuest f fd) (T : OexC K C) (hn : PySem.W.findIn K (.ref C) "name" = some none) :
    FnOk P w K mg base CX0 1 f fd ["self", "name"] (spI C ["name"]) ∧ Binds K fd ["self", "name"] [] ∧ KwB fd ["name"] := by
  refine ⟨F.ok scINoGuest (fun vs H Q E h => ?_) (fun cdv A outer s H vs Q E hr h => ?_), F.binds (fun _ _ _ _ _ _ us hl => match us, hl with | [_, _], _ => rfl), ?_⟩
  · obtain ⟨a, ws, rfl, hl, _⟩ := h
    rw [List.length_cons, hl]
    rfl
  · obtain ⟨a, ws, rfl, hl, ha, k⟩ := h
    match ws, hl with
    | [v], _ =>
      refine ⟨_, pss_one (ps_ost (pv 0) (pv 1)), ?_⟩
      refine ⟨_, rfl, _, rfl, a, C, rfl, T, hn, .inl ⟨ha, fun dx hdx ne => ?_⟩⟩
      exact k _ dx (fun b o n e => by rw [upd_ne n, upd_ne (ne_of_none e hdx)]; exact e) hdx upd_same (by rw [upd_ne ne]; exact upd_same)
  · obtain ⟨oc, od, kV, doc, pm, an, cdv, ct, osl, rfl, _, _⟩ := F.ex
    intro s' u ws hl
    match ws, hl with
    | [_], _ => exact .of_eq rfl
abbrev sINotLet : Stmt := inClass (top 20) 0
theorem scINotLet : FnScope ["self", "stay"] ["self", "stay"] (defScope sINotLet) := ⟨rfl, rfl, rfl, by decide +kernel, rfl, by decide +kernel, by decide +kernel⟩
theorem okINotLet {f C : Addr} {fd : FuncData} (F : Fun K "__init__" "NotLet.__init__" sINotLet f fd) (T : OexC K C) (hn : PySem.W.findIn K (.ref C) "stay" = some none) :
    FnOk P w K mg base CX0 1 f fd ["self", "stay"] (spI C ["stay"]) ∧ Binds K fd ["self", "stay"] [] ∧ KwB fd ["stay"] := by
  refine ⟨F.ok scINotLet (fun vs H Q E h => ?_) (fun cdv A outer s H vs Q E hr h => ?_), F.binds (fun _ _ _ _ _ _ us hl => match us, hl with | [_, _], _ => rfl), ?_⟩
  · obtain ⟨a, ws, rfl, hl, _⟩ := h
    rw [List.length_cons, hl]
    rfl
  · obtain ⟨a, ws, rfl, hl, ha, k⟩ := h
    match ws, hl with
    | [v], _ =>
      refine ⟨_, pss_one (ps_ost (pv 0) (pv 1)), ?_⟩
      refine ⟨_, rfl, _, rfl, a, C, rfl, T, hn, .inl ⟨ha, fun dx hdx ne => ?_⟩⟩
      exact k _ dx (fun b o n e => by rw [upd_ne n, upd_ne (ne_of_none e hdx)]; exact e) hdx upd_same (by rw [upd_ne ne]; exact upd_same)
  · obtain ⟨oc, od, kV, doc, pm, an, cdv, ct, osl, rfl, _, _⟩ := F.ex
    intro s' u ws hl
    match ws, hl with
    | [_], _ => exact .of_eq rfl
abbrev sIOutside : Stmt := inClass (top 21) 0
theorem scIOutside : FnScope ["self", "stay"] ["self", "stay"] (defScope sIOutside) := ⟨rfl, rfl, rfl, by decide +kernel, rfl, by decide +kernel, by decide +kernel⟩
theorem okIOutside {f C : Addr} {fd : FuncData} (F : Fun K "__init__" "Outside.__init__" sIOutside f fd) (T : OexC K C) (hn : PySem.W.findIn K (.ref C) "stay" = some none) :
    FnOk P w K mg base CX0 1 f fd ["self", "stay"] (spI C ["stay"]) ∧ Binds K fd ["self", "stay"] [] ∧ KwB fd ["stay"] := by
  refine ⟨F.ok scIOutside (fun vs H Q E h => ?_) (fun cdv A outer s H vs Q E hr h => ?_), F.binds (fun _ _ _ _ _ _ us hl => match us, hl with | [_, _], _ => rfl), ?_⟩
  · obtain ⟨a, ws, rfl, hl, _⟩ := h
    rw [List.length_cons, hl]
    rfl
  · obtain ⟨a, ws, rfl, hl, ha, k⟩ := h
    match ws, hl with
    | [v], _ =>
      refine ⟨_, pss_one (ps_ost (pv 0) (pv 1)), ?_⟩
      refine ⟨_, rfl, _, rfl, a, C, rfl, T, hn, .inl ⟨ha, fun dx hdx ne => ?_⟩⟩
      exact k _ dx (fun b o n e => by rw [upd_ne n, upd_ne (ne_of_none e hdx)]; exact e) hdx upd_same (by rw [upd_ne ne]; exact upd_same)
  · obtain ⟨oc, od, kV, doc, pm, an, cdv, ct, osl, rfl, _, _⟩ := F.ex
    intro s' u ws hl
    match ws, hl with
    | [_], _ => exact .of_eq rfl
abbrev sIFull : Stmt := inClass (top 22) 0
theorem scIFull : FnScope ["self", "night"] ["self", "night"] (defScope sIFull) := ⟨rfl, rfl, rfl, by decide +kernel, rfl, by decide +kernel, by decide +kernel⟩
theorem okIFull {f C : Addr} {fd : FuncData} (F : Fun K "__init__" "Full.__init__" sIFull f fd) (T : OexC K C) (hn : PySem.W.findIn K (.ref C) "night" = some none) :
    FnOk P w K mg base CX0 1 f fd ["self", "night"] (spI C ["night"]) ∧ Binds K fd ["self", "night"] [] ∧ KwB fd ["night"] := by
  refine ⟨F.ok scIFull (fun vs H Q E h => ?_) (fun cdv A outer s H vs Q E hr h => ?_), F.binds (fun _ _ _ _ _ _ us hl => match us, hl with | [_, _], _ => rfl), ?_⟩
  · obtain ⟨a, ws, rfl, hl, _⟩ := h
    rw [List.length_cons, hl]
    rfl
  · obtain ⟨a, ws, rfl, hl, ha, k⟩ := h
    match ws, hl with
    | [v], _ =>
      refine ⟨_, pss_one (ps_ost (pv 0) (pv 1)), ?_⟩
      refine ⟨_, rfl, _, rfl, a, C, rfl, T, hn, .inl ⟨ha, fun dx hdx ne => ?_⟩⟩
      exact k _ dx (fun b o n e => by rw [upd_ne n, upd_ne (ne_of_none e hdx)]; exact e) hdx upd_same (by rw [upd_ne ne]; exact upd_same)
  · obtain ⟨oc, od, kV, doc, pm, an, cdv, ct, osl, rfl, _, _⟩ := F.ex
    intro s' u ws hl
    match ws, hl with
    | [_], _ => exact .of_eq rfl
abbrev sILoose : Stmt := inClass (top 23) 0
theorem scILoose : FnScope ["self", "name"] ["self", "name"] (defScope sILoose) := ⟨rfl, rfl, rfl, by decide +kernel, rfl, by decide +kernel, by decide +kernel⟩
theorem okILoose {f C : Addr} {fd : FuncData} (F : Fun K "__init__" "Loose.__init__" sILoose f fd) (T : OexC K C) (hn : PySem.W.findIn K (.ref C) "name" = some none) :
    FnOk P w K mg base CX0 1 f fd ["self", "name"] (spI C ["name"]) ∧ Binds K fd ["self", "name"] [] ∧ KwB fd ["name"] := by
  refine ⟨F.ok scILoose (fun vs H Q E h => ?_) (fun cdv A outer s H vs Q E hr h => ?_), F.binds (fun _ _ _ _ _ _ us hl => match us, hl with | [_, _], _ => rfl), ?_⟩
  · obtain ⟨a, ws, rfl, hl, _⟩ := h
    rw [List.length_cons, hl]
    rfl
  · obtain ⟨a, ws, rfl, hl, ha, k⟩ := h
    match ws, hl with
    | [v], _ =>
      refine ⟨_, pss_one (ps_ost (pv 0) (pv 1)), ?_⟩
      refine ⟨_, rfl, _, rfl, a, C, rfl, T, hn, .inl ⟨ha, fun dx hdx ne => ?_⟩⟩
      exact k _ dx (fun b o n e => by rw [upd_ne n, upd_ne (ne_of_none e hdx)]; exact e) hdx upd_same (by rw [upd_ne ne]; exact upd_same)
  · obtain ⟨oc, od, kV, doc, pm, an, cdv, ct, osl, rfl, _, _⟩ := F.ex
    intro s' u ws hl
    match ws, hl with
    | [_], _ => exact .of_eq rfl
abbrev sITooMany : Stmt := inClass (top 24) 0
theorem scITooMany : FnScope ["self", "what", "most"] ["self", "what", "most"] (defScope sITooMany) := ⟨rfl, rfl, rfl, by decide +kernel, rfl, by decide +kernel, by decide +kernel⟩
theorem okITooMany {f C : Addr} {fd : FuncData} (F : Fun K "__init__" "TooMany.__init__" sITooMany f fd) (T : OexC K C) (hn : PySem.W.findIn K (.ref C) "what" = some none) (hm : PySem.W.findIn K (.ref C) "most" = some none) :
    FnOk P w K mg base CX0 1 f fd ["self", "what", "most"] (spI C ["what", "most"]) ∧ Binds K fd ["self", "what", "most"] [] ∧ KwB fd ["what", "most"] := by
  refine ⟨F.ok scITooMany (fun vs H Q E h => ?_) (fun cdv A outer s H vs Q E hr h => ?_), F.binds (fun _ _ _ _ _ _ us hl => match us, hl with | [_, _, _], _ => rfl), ?_⟩
  · obtain ⟨a, ws, rfl, hl, _⟩ := h
    rw [List.length_cons, hl]
    rfl
  · obtain ⟨a, ws, rfl, hl, ha, k⟩ := h
    match ws, hl with
    | [v, v2], _ =>
      refine ⟨_, pss_cons (ps_ost (pv 0) (pv 1)) (pss_one (ps_ost (pv 0) (pv 2))), ?_⟩
      refine ⟨_, rfl, _, rfl, a, C, rfl, T, hn, .inl ⟨ha, fun dx hdx ne => ?_⟩⟩
      refine ⟨_, rfl, _, rfl, a, C, rfl, T, hm, .inr ⟨dx, _, upd_same, (by rw [upd_ne ne]; exact upd_same), (by show 1 ≤ 900; decide), ?_⟩⟩
      exact k _ dx (fun b o n e => by rw [upd_ne (ne_of_none e hdx), upd_ne n, upd_ne (ne_of_none e hdx)]; exact e) hdx (by rw [upd_ne ne.symm]; exact upd_same) upd_same
  · obtain ⟨oc, od, kV, doc, pm, an, cdv, ct, osl, rfl, _, _⟩ := F.ex
    intro s' u ws hl
    match ws, hl with
    | [_, _], _ => exact .of_eq rfl
abbrev sIDead : Stmt := inClass (top 26) 0
theorem scIDead : FnScope ["self", "bar"] ["self", "bar"] (defScope sIDead) := ⟨rfl, rfl, rfl, by decide +kernel, rfl, by decide +kernel, by decide +kernel⟩
theorem okIDead {f C : Addr} {fd : FuncData} (F : Fun K "__init__" "Dead.__init__" sIDead f fd) (T : OexC K C) (hn : PySem.W.findIn K (.ref C) "bar" = some none) :
    FnOk P w K mg base CX0 1 f fd ["self", "bar"] (spI C ["bar"]) ∧ Binds K fd ["self", "bar"] [] ∧ KwB fd ["bar"] := by
  refine ⟨F.ok scIDead (fun vs H Q E h => ?_) (fun cdv A outer s H vs Q E hr h => ?_), F.binds (fun _ _ _ _ _ _ us hl => match us, hl with | [_, _], _ => rfl), ?_⟩
  · obtain ⟨a, ws, rfl, hl, _⟩ := h
    rw [List.length_cons, hl]
    rfl
  · obtain ⟨a, ws, rfl, hl, ha, k⟩ := h
    match ws, hl with
    | [v], _ =>
      refine ⟨_, pss_one (ps_ost (pv 0) (pv 1)), ?_⟩
      refine ⟨_, rfl, _, rfl, a, C, rfl, T, hn, .inl ⟨ha, fun dx hdx ne => ?_⟩⟩
      exact k _ dx (fun b o n e => by rw [upd_ne n, upd_ne (ne_of_none e hdx)]; exact e) hdx upd_same (by rw [upd_ne ne]; exact upd_same)
  · obtain ⟨oc, od, kV, doc, pm, an, cdv, ct, osl, rfl, _, _⟩ := F.ex
    intro s' u ws hl
    match ws, hl with
    | [_], _ => exact .of_eq rfl
end
end NB
namespace NB
open PySem L2
/-- a list of pairs of a text and a truth -/
def Rows (H : Hp) (l : Addr) (rows : List (Str × Bool)) : Prop := ∃ ts : List Addr, H l = some (.lst (ts.map V.ref)) ∧ Paired (fun t (q : Str × Bool) => H t = some (.tup [.str q.1, .bl q.2])) ts rows
theorem Paired.imp2 {α β : Type} {F G : α → β → Prop} : ∀ {l₁ : List α} {l₂ : List β}, Paired F l₁ l₂ → (∀ a b, F a b → G a b) → Paired G l₁ l₂
  | _, _, .nil, _ => .nil
  | _, _, .cons r t, f => .cons (f _ _ r) (Paired.imp2 t f)
theorem Paired.app {α β : Type} {F : α → β → Prop} : ∀ {l₁ m₁ : List α} {l₂ m₂ : List β}, Paired F l₁ l₂ → Paired F m₁ m₂ → Paired F (l₁ ++ m₁) (l₂ ++ m₂)
  | _, _, _, _, .nil, h => h
  | _, _, _, _, .cons r t, h => .cons r (Paired.app t h)
theorem Rows.keep {H H' : Hp} {l : Addr} {rows : List (Str × Bool)} (h : Rows H l rows) (s : Same H H') : Rows H' l rows := by
  obtain ⟨ts, e, p⟩ := h
  exact ⟨ts, s _ _ e, Paired.imp2 p fun t q z => s _ _ z⟩
theorem same_new {H H' : Hp} {a : Addr} {o : HO} (s : Same H H') (h : H' a = none) : Same H (upd H' a o) := fun b u e => by
  have z := s b u e
  rw [upd_ne (ne_of_none z h)]
  exact z
/-- e is an error of the class at C -/
structure ErrAt (K : PySem.W.Frag) (H : Hp) (e C : Addr) : Prop where
  ex : ∃ (d : Option Addr) (fs : List (Str × V)), IsEx H e C d ∧ XFs H d fs
  ec : ExcC K C
theorem ErrAt.keep {K : PySem.W.Frag} {H H' : Hp} {e C : Addr} (h : ErrAt K H e C) (s : Same H H') : ErrAt K H' e C := by
  obtain ⟨⟨d, fs, x, y⟩, z⟩ := h
  exact ⟨⟨d, fs, x.keep s, y.keep s⟩, z⟩
/-- isinstance of it -/
theorem isx {K : PySem.W.Frag} {H : Hp} {e C D : Addr} {b : Bool} {Q : VK} (h : ErrAt K H e C) (k : PySem.W.kitOne K (.ref C) (.ref D) = some b) (q : Q (.bl b) H) : rIsX K [.ref e, .ref D] H Q := by
  obtain ⟨⟨d, fs, x, y⟩, z⟩ := h
  exact ⟨e, C, d, fs, .ref D, .ref D, b, rfl, x, y, z, .own D, k, q⟩
/-! readings, one construct at a time -/
section
variable {σ : SV} {H : Hp} {D : Ends} {te ta tb : TE} {t : TA} {Q : VK} {QA : List V → Hp → Prop} {i : Nat} {r : R2} {rc : List V → Hp → VK → Prop} {v : V}
theorem rd_asg (h : te σ H fun v H' => D.nx (σ.set i (some v)) H') : tAsg te (gName i) D σ H := h
theorem rd_lst (h : t σ H fun xs H1 => xs.length ≤ sizeLine ∧ ∀ p, H1 p = none → Q (.ref p) (upd H1 p (.lst xs))) : tLst t σ H Q := h
theorem rd_tup (h : t σ H fun xs H1 => xs.length ≤ sizeLine ∧ ∀ p, H1 p = none → Q (.ref p) (upd H1 p (.tup xs))) : tTup t σ H Q := h
theorem rd_cons (h : te σ H fun x H1 => t σ H1 fun xs H2 => QA (x :: xs) H2) : tCons te t σ H QA := h
theorem rd_nil (h : QA [] H) : tNil σ H QA := h
theorem rd_op (h : ta σ H fun x H1 => tb σ H1 fun y H2 => r x y H2 Q) : tOp r ta tb σ H Q := h
theorem rd_cb (h : t σ H fun vs H1 => rc vs H1 Q) : tCB rc t σ H Q := h
theorem rd_var (h : σ[i]? = some (some v)) (q : Q v H) : tVar i σ H Q := ⟨v, h, q⟩
theorem rd_c (q : Q v H) : tC v σ H Q := q
end
section
variable {K : PySem.W.Frag} {σ : SV} {H : Hp} {D : Ends} {e C D1 D2 l : Addr} {b1 b2 : Bool} {s1 s2 : Str} {rows : List (Str × Bool)}
abbrev tSign (K : PySem.W.Frag) (s : Str) (D : Addr) : TE := tTup (tCons (tC (.str s)) (tCons (tCB (rIsX K) (tCons (tVar 0) (tCons (tC (.ref D)) tNil))) tNil))
theorem rd_sign {s : Str} {D : Addr} {b : Bool} {Q : VK} (h0 : σ[0]? = some (some (.ref e))) (he : ErrAt K H e C) (k : PySem.W.kitOne K (.ref C) (.ref D) = some b)
    (q : ∀ t, H t = none → Q (.ref t) (upd H t (.tup [.str s, .bl b]))) : tSign K s D σ H Q := by
  exact rd_tup (rd_cons (rd_c (rd_cons (rd_cb (rd_cons (rd_var h0 (rd_cons (rd_c (rd_nil (isx he k (rd_nil ⟨by show 2 ≤ sizeLine; decide, q⟩)))))))))))
theorem st_first (h0 : σ[0]? = some (some (.ref e))) (he : ErrAt K H e C) (k1 : PySem.W.kitOne K (.ref C) (.ref D1) = some b1) (k2 : PySem.W.kitOne K (.ref C) (.ref D2) = some b2)
    (next : ∀ H' l', Same H H' → Rows H' l' [(s1, b1), (s2, b2)] → D.nx (σ.set 1 (some (.ref l'))) H') :
    tAsg (tLst (tCons (tSign K s1 D1) (tCons (tSign K s2 D2) tNil))) (gName 1) D σ H := by
  refine rd_asg (rd_lst (rd_cons (rd_sign h0 he k1 fun t1 h1 => rd_cons (rd_sign h0 (he.keep (same_new (Same.refl _) h1)) k2 fun t2 h2 => rd_nil ⟨by show 2 ≤ sizeLine; decide, fun m hm => ?_⟩))))
  obtain ⟨n2, _⟩ := fresh_upd h2
  refine next _ m (same_new (same_new (same_new (Same.refl _) h1) h2) hm) ⟨[t1, t2], upd_same, .cons ?_ (.cons ?_ .nil)⟩
  · obtain ⟨m2, hm⟩ := fresh_upd hm
    obtain ⟨m1, hm⟩ := fresh_upd hm
    rw [upd_ne m1.symm, upd_ne n2.symm]
    exact upd_same
  · obtain ⟨m2, hm⟩ := fresh_upd hm
    rw [upd_ne m2.symm]
    exact upd_same
theorem rd_more {Q : VK} (h0 : σ[0]? = some (some (.ref e))) (hl : σ[1]? = some (some (.ref l))) (hr : Rows H l rows) (hz : rows.length ≤ 100) (he : ErrAt K H e C)
    (k1 : PySem.W.kitOne K (.ref C) (.ref D1) = some b1) (k2 : PySem.W.kitOne K (.ref C) (.ref D2) = some b2)
    (next : ∀ H' l', Same H H' → Rows H' l' (rows ++ [(s1, b1), (s2, b2)]) → Q (.ref l') H') :
    tOp rCat (tVar 1) (tLst (tCons (tSign K s1 D1) (tCons (tSign K s2 D2) tNil))) σ H Q := by
  refine rd_op (rd_var hl (rd_lst (rd_cons (rd_sign h0 he k1 fun t1 h1 => rd_cons (rd_sign h0 (he.keep (same_new (Same.refl _) h1)) k2 fun t2 h2 => rd_nil ⟨by show 2 ≤ sizeLine; decide, fun m hm => ?_⟩)))))
  obtain ⟨ts, e1, pr⟩ := hr
  have sm := same_new (o := .lst [.ref t1, .ref t2]) (same_new (o := .tup [.str s2, .bl b2]) (same_new (o := .tup [.str s1, .bl b1]) (Same.refl H) h1) h2) hm
  have lt : ts.length = rows.length := Paired.length pr
  refine ⟨l, m, _, _, rfl, rfl, sm _ _ e1, upd_same, ?_, fun g hg => ?_⟩
  · rw [List.length_map, lt]
    show rows.length + 2 ≤ sizeLine
    rw [sizeLine_eq]
    omega
  · have s2' := same_new (o := .lst (ts.map V.ref ++ [.ref t1, .ref t2])) sm hg
    obtain ⟨n2, _⟩ := fresh_upd h2
    have q1 : upd (upd (upd H t1 (.tup [.str s1, .bl b1])) t2 (.tup [.str s2, .bl b2])) m (.lst [.ref t1, .ref t2]) t1 = some (.tup [.str s1, .bl b1]) := by
      obtain ⟨m2, hm⟩ := fresh_upd hm
      obtain ⟨m1, hm⟩ := fresh_upd hm
      rw [upd_ne m1.symm, upd_ne n2.symm]
      exact upd_same
    have q2 : upd (upd (upd H t1 (.tup [.str s1, .bl b1])) t2 (.tup [.str s2, .bl b2])) m (.lst [.ref t1, .ref t2]) t2 = some (.tup [.str s2, .bl b2]) := by
      obtain ⟨m2, hm⟩ := fresh_upd hm
      rw [upd_ne m2.symm]
      exact upd_same
    refine next _ g s2' ⟨ts ++ [t1, t2], ?_, Paired.app (Paired.imp2 pr fun t q z => s2' _ _ z) (.cons ?_ (.cons ?_ .nil))⟩
    · rw [List.map_append]
      exact upd_same
    · rw [upd_ne (ne_of_none q1 hg)]
      exact q1
    · rw [upd_ne (ne_of_none q2 hg)]
      exact q2
theorem st_more (h0 : σ[0]? = some (some (.ref e))) (hl : σ[1]? = some (some (.ref l))) (hr : Rows H l rows) (hz : rows.length ≤ 100) (he : ErrAt K H e C)
    (k1 : PySem.W.kitOne K (.ref C) (.ref D1) = some b1) (k2 : PySem.W.kitOne K (.ref C) (.ref D2) = some b2)
    (next : ∀ H' l', Same H H' → Rows H' l' (rows ++ [(s1, b1), (s2, b2)]) → D.nx (σ.set 1 (some (.ref l'))) H') :
    tAsg (tOp rCat (tVar 1) (tLst (tCons (tSign K s1 D1) (tCons (tSign K s2 D2) tNil)))) (gName 1) D σ H :=
  rd_more h0 hl hr hz he k1 k2 next
theorem rd_last {Q : VK} (h0 : σ[0]? = some (some (.ref e))) (hl : σ[1]? = some (some (.ref l))) (hr : Rows H l rows) (hz : rows.length ≤ 100) (he : ErrAt K H e C)
    (k1 : PySem.W.kitOne K (.ref C) (.ref D1) = some b1) (next : ∀ H' l', Same H H' → Rows H' l' (rows ++ [(s1, b1)]) → Q (.ref l') H') :
    tOp rCat (tVar 1) (tLst (tCons (tSign K s1 D1) tNil)) σ H Q := by
  refine rd_op (rd_var hl (rd_lst (rd_cons (rd_sign h0 he k1 fun t1 h1 => rd_nil ⟨by show 1 ≤ sizeLine; decide, fun m hm => ?_⟩))))
  obtain ⟨ts, e1, pr⟩ := hr
  have sm := same_new (o := .lst [.ref t1]) (same_new (o := .tup [.str s1, .bl b1]) (Same.refl H) h1) hm
  have lt : ts.length = rows.length := Paired.length pr
  refine ⟨l, m, _, _, rfl, rfl, sm _ _ e1, upd_same, ?_, fun g hg => ?_⟩
  · rw [List.length_map, lt]
    show rows.length + 1 ≤ sizeLine
    rw [sizeLine_eq]
    omega
  · have s2' := same_new (o := .lst (ts.map V.ref ++ [.ref t1])) sm hg
    have q1 : upd (upd H t1 (.tup [.str s1, .bl b1])) m (.lst [.ref t1]) t1 = some (.tup [.str s1, .bl b1]) := by
      obtain ⟨m1, hm⟩ := fresh_upd hm
      rw [upd_ne m1.symm]
      exact upd_same
    refine next _ g s2' ⟨ts ++ [t1], ?_, Paired.app (Paired.imp2 pr fun t q z => s2' _ _ z) (.cons ?_ .nil)⟩
    · rw [List.map_append]
      exact upd_same
    · rw [upd_ne (ne_of_none q1 hg)]
      exact q1
end
end NB
namespace NB
open PySem L2
/-- where the classes stand -/
structure Cl (mg : Str → Option Value) (D : Nat → Addr) : Prop where
  m0 : mg "BadInput" = some (.ref (D 0))
  m1 : mg "Refused" = some (.ref (D 1))
  m2 : mg "NoAnswer" = some (.ref (D 2))
  m3 : mg "BadLengths" = some (.ref (D 3))
  m4 : mg "BadDays" = some (.ref (D 4))
  m5 : mg "BadStay" = some (.ref (D 5))
  m6 : mg "BadRule" = some (.ref (D 6))
  m7 : mg "BadBook" = some (.ref (D 7))
  m8 : mg "BadStretch" = some (.ref (D 8))
  m9 : mg "BadCalendar" = some (.ref (D 9))
  m10 : mg "BadDoor" = some (.ref (D 10))
  m11 : mg "BadName" = some (.ref (D 11))
  m12 : mg "BadCount" = some (.ref (D 12))
  m13 : mg "BadWish" = some (.ref (D 13))
  m14 : mg "BadRow" = some (.ref (D 14))
  m15 : mg "BadText" = some (.ref (D 15))
  m16 : mg "BadLine" = some (.ref (D 16))
  m17 : mg "Taken" = some (.ref (D 17))
  m18 : mg "NoGuest" = some (.ref (D 18))
  m19 : mg "NotLet" = some (.ref (D 19))
  m20 : mg "Outside" = some (.ref (D 20))
  m21 : mg "Full" = some (.ref (D 21))
  m22 : mg "Loose" = some (.ref (D 22))
  m23 : mg "TooMany" = some (.ref (D 23))
  m24 : mg "Dead" = some (.ref (D 24))
  m25 : mg "NoDeed" = some (.ref (D 25))
  m26 : mg "NoHouse" = some (.ref (D 26))
def Sig (K : PySem.W.Frag) (D : Nat → Addr) (C : Addr) (bits : Nat → Bool) : Prop := ∀ i, i < 27 → PySem.W.kitOne K (.ref C) (.ref (D i)) = some (bits i)
def sigRows (bits : Nat → Bool) : List (Str × Bool) := [("input", bits 0), ("refused", bits 1), ("answer", bits 2), ("lengths", bits 3), ("days", bits 4), ("stay", bits 5), ("rule", bits 6), ("book", bits 7), ("stretch", bits 8), ("calendar", bits 9), ("door", bits 10), ("name", bits 11), ("count", bits 12), ("wish", bits 13), ("row", bits 14), ("text", bits 15), ("line", bits 16), ("taken", bits 17), ("guest", bits 18), ("let", bits 19), ("outside", bits 20), ("full", bits 21), ("loose", bits 22), ("many", bits 23), ("dead", bits 24), ("deed", bits 25), ("house", bits 26)]
section
variable {P : Program} {w : World} {K : PySem.W.Frag} {mg : Str → Option Value} {base : Heap} {D : Nat → Addr}
abbrev sSigns : Stmt := top 35
theorem scSigns : FnScope ["_law_caught", "_law_found"] ["_law_caught"] (defScope sSigns) := ⟨rfl, rfl, rfl, by decide +kernel, rfl, by decide +kernel, by decide +kernel⟩
def spSigns (K : PySem.W.Frag) (D : Nat → Addr) : Sp := fun vs H Q _ => ∃ (e C : Addr) (bits : Nat → Bool), vs = [.ref e] ∧ ErrAt K H e C ∧ Sig K D C bits ∧ ∀ (H' : Hp) (l : Addr), Same H H' → Rows H' l (sigRows bits) → Q (.ref l) H'
theorem ok_signs {f : Addr} {fd : FuncData} (F : Fun K "_law_signs" "_law_signs" sSigns f fd) (T : Bi mg) (Z : Cl mg D) : FnOk P w K mg base CX0 1 f fd ["_law_caught"] (spSigns K D) := by
  refine F.ok scSigns (fun vs H Q E h => ?_) (fun cdv A outer s H vs Q E hr h => ?_)
  · obtain ⟨e, C, bits, rfl, _⟩ := h
    rfl
  · obtain ⟨e, C, bits, rfl, he, hb, k⟩ := h
    refine ⟨_, pss_cons (ps_set (i := 1) scSigns.nd rfl (.inl rfl) (pe_lst (pa_cons (pe_tup (pa_cons pe_str (pa_cons (pe_callB call_isX (by rfl) T.isinstance (by decide +kernel) (pa_cons (pv 0) (pa_cons (pe_glob (v := .ref (D 0)) (by rfl) Z.m0 rfl) pa_nil))) pa_nil))) (pa_cons (pe_tup (pa_cons pe_str (pa_cons (pe_callB call_isX (by rfl) T.isinstance (by decide +kernel) (pa_cons (pv 0) (pa_cons (pe_glob (v := .ref (D 1)) (by rfl) Z.m1 rfl) pa_nil))) pa_nil))) pa_nil))))
      (pss_cons (ps_set (i := 1) scSigns.nd rfl (.inl rfl) (pe_op op_cat (pv 1) (pe_lst (pa_cons (pe_tup (pa_cons pe_str (pa_cons (pe_callB call_isX (by rfl) T.isinstance (by decide +kernel) (pa_cons (pv 0) (pa_cons (pe_glob (v := .ref (D 2)) (by rfl) Z.m2 rfl) pa_nil))) pa_nil))) (pa_cons (pe_tup (pa_cons pe_str (pa_cons (pe_callB call_isX (by rfl) T.isinstance (by decide +kernel) (pa_cons (pv 0) (pa_cons (pe_glob (v := .ref (D 3)) (by rfl) Z.m3 rfl) pa_nil))) pa_nil))) pa_nil)))))
      (pss_cons (ps_set (i := 1) scSigns.nd rfl (.inl rfl) (pe_op op_cat (pv 1) (pe_lst (pa_cons (pe_tup (pa_cons pe_str (pa_cons (pe_callB call_isX (by rfl) T.isinstance (by decide +kernel) (pa_cons (pv 0) (pa_cons (pe_glob (v := .ref (D 4)) (by rfl) Z.m4 rfl) pa_nil))) pa_nil))) (pa_cons (pe_tup (pa_cons pe_str (pa_cons (pe_callB call_isX (by rfl) T.isinstance (by decide +kernel) (pa_cons (pv 0) (pa_cons (pe_glob (v := .ref (D 5)) (by rfl) Z.m5 rfl) pa_nil))) pa_nil))) pa_nil)))))
      (pss_cons (ps_set (i := 1) scSigns.nd rfl (.inl rfl) (pe_op op_cat (pv 1) (pe_lst (pa_cons (pe_tup (pa_cons pe_str (pa_cons (pe_callB call_isX (by rfl) T.isinstance (by decide +kernel) (pa_cons (pv 0) (pa_cons (pe_glob (v := .ref (D 6)) (by rfl) Z.m6 rfl) pa_nil))) pa_nil))) (pa_cons (pe_tup (pa_cons pe_str (pa_cons (pe_callB call_isX (by rfl) T.isinstance (by decide +kernel) (pa_cons (pv 0) (pa_cons (pe_glob (v := .ref (D 7)) (by rfl) Z.m7 rfl) pa_nil))) pa_nil))) pa_nil)))))
      (pss_cons (ps_set (i := 1) scSigns.nd rfl (.inl rfl) (pe_op op_cat (pv 1) (pe_lst (pa_cons (pe_tup (pa_cons pe_str (pa_cons (pe_callB call_isX (by rfl) T.isinstance (by decide +kernel) (pa_cons (pv 0) (pa_cons (pe_glob (v := .ref (D 8)) (by rfl) Z.m8 rfl) pa_nil))) pa_nil))) (pa_cons (pe_tup (pa_cons pe_str (pa_cons (pe_callB call_isX (by rfl) T.isinstance (by decide +kernel) (pa_cons (pv 0) (pa_cons (pe_glob (v := .ref (D 9)) (by rfl) Z.m9 rfl) pa_nil))) pa_nil))) pa_nil)))))
      (pss_cons (ps_set (i := 1) scSigns.nd rfl (.inl rfl) (pe_op op_cat (pv 1) (pe_lst (pa_cons (pe_tup (pa_cons pe_str (pa_cons (pe_callB call_isX (by rfl) T.isinstance (by decide +kernel) (pa_cons (pv 0) (pa_cons (pe_glob (v := .ref (D 10)) (by rfl) Z.m10 rfl) pa_nil))) pa_nil))) (pa_cons (pe_tup (pa_cons pe_str (pa_cons (pe_callB call_isX (by rfl) T.isinstance (by decide +kernel) (pa_cons (pv 0) (pa_cons (pe_glob (v := .ref (D 11)) (by rfl) Z.m11 rfl) pa_nil))) pa_nil))) pa_nil)))))
      (pss_cons (ps_set (i := 1) scSigns.nd rfl (.inl rfl) (pe_op op_cat (pv 1) (pe_lst (pa_cons (pe_tup (pa_cons pe_str (pa_cons (pe_callB call_isX (by rfl) T.isinstance (by decide +kernel) (pa_cons (pv 0) (pa_cons (pe_glob (v := .ref (D 12)) (by rfl) Z.m12 rfl) pa_nil))) pa_nil))) (pa_cons (pe_tup (pa_cons pe_str (pa_cons (pe_callB call_isX (by rfl) T.isinstance (by decide +kernel) (pa_cons (pv 0) (pa_cons (pe_glob (v := .ref (D 13)) (by rfl) Z.m13 rfl) pa_nil))) pa_nil))) pa_nil)))))
      (pss_cons (ps_set (i := 1) scSigns.nd rfl (.inl rfl) (pe_op op_cat (pv 1) (pe_lst (pa_cons (pe_tup (pa_cons pe_str (pa_cons (pe_callB call_isX (by rfl) T.isinstance (by decide +kernel) (pa_cons (pv 0) (pa_cons (pe_glob (v := .ref (D 14)) (by rfl) Z.m14 rfl) pa_nil))) pa_nil))) (pa_cons (pe_tup (pa_cons pe_str (pa_cons (pe_callB call_isX (by rfl) T.isinstance (by decide +kernel) (pa_cons (pv 0) (pa_cons (pe_glob (v := .ref (D 15)) (by rfl) Z.m15 rfl) pa_nil))) pa_nil))) pa_nil)))))
      (pss_cons (ps_set (i := 1) scSigns.nd rfl (.inl rfl) (pe_op op_cat (pv 1) (pe_lst (pa_cons (pe_tup (pa_cons pe_str (pa_cons (pe_callB call_isX (by rfl) T.isinstance (by decide +kernel) (pa_cons (pv 0) (pa_cons (pe_glob (v := .ref (D 16)) (by rfl) Z.m16 rfl) pa_nil))) pa_nil))) (pa_cons (pe_tup (pa_cons pe_str (pa_cons (pe_callB call_isX (by rfl) T.isinstance (by decide +kernel) (pa_cons (pv 0) (pa_cons (pe_glob (v := .ref (D 17)) (by rfl) Z.m17 rfl) pa_nil))) pa_nil))) pa_nil)))))
      (pss_cons (ps_set (i := 1) scSigns.nd rfl (.inl rfl) (pe_op op_cat (pv 1) (pe_lst (pa_cons (pe_tup (pa_cons pe_str (pa_cons (pe_callB call_isX (by rfl) T.isinstance (by decide +kernel) (pa_cons (pv 0) (pa_cons (pe_glob (v := .ref (D 18)) (by rfl) Z.m18 rfl) pa_nil))) pa_nil))) (pa_cons (pe_tup (pa_cons pe_str (pa_cons (pe_callB call_isX (by rfl) T.isinstance (by decide +kernel) (pa_cons (pv 0) (pa_cons (pe_glob (v := .ref (D 19)) (by rfl) Z.m19 rfl) pa_nil))) pa_nil))) pa_nil)))))
      (pss_cons (ps_set (i := 1) scSigns.nd rfl (.inl rfl) (pe_op op_cat (pv 1) (pe_lst (pa_cons (pe_tup (pa_cons pe_str (pa_cons (pe_callB call_isX (by rfl) T.isinstance (by decide +kernel) (pa_cons (pv 0) (pa_cons (pe_glob (v := .ref (D 20)) (by rfl) Z.m20 rfl) pa_nil))) pa_nil))) (pa_cons (pe_tup (pa_cons pe_str (pa_cons (pe_callB call_isX (by rfl) T.isinstance (by decide +kernel) (pa_cons (pv 0) (pa_cons (pe_glob (v := .ref (D 21)) (by rfl) Z.m21 rfl) pa_nil))) pa_nil))) pa_nil)))))
      (pss_cons (ps_set (i := 1) scSigns.nd rfl (.inl rfl) (pe_op op_cat (pv 1) (pe_lst (pa_cons (pe_tup (pa_cons pe_str (pa_cons (pe_callB call_isX (by rfl) T.isinstance (by decide +kernel) (pa_cons (pv 0) (pa_cons (pe_glob (v := .ref (D 22)) (by rfl) Z.m22 rfl) pa_nil))) pa_nil))) (pa_cons (pe_tup (pa_cons pe_str (pa_cons (pe_callB call_isX (by rfl) T.isinstance (by decide +kernel) (pa_cons (pv 0) (pa_cons (pe_glob (v := .ref (D 23)) (by rfl) Z.m23 rfl) pa_nil))) pa_nil))) pa_nil)))))
      (pss_cons (ps_set (i := 1) scSigns.nd rfl (.inl rfl) (pe_op op_cat (pv 1) (pe_lst (pa_cons (pe_tup (pa_cons pe_str (pa_cons (pe_callB call_isX (by rfl) T.isinstance (by decide +kernel) (pa_cons (pv 0) (pa_cons (pe_glob (v := .ref (D 24)) (by rfl) Z.m24 rfl) pa_nil))) pa_nil))) (pa_cons (pe_tup (pa_cons pe_str (pa_cons (pe_callB call_isX (by rfl) T.isinstance (by decide +kernel) (pa_cons (pv 0) (pa_cons (pe_glob (v := .ref (D 25)) (by rfl) Z.m25 rfl) pa_nil))) pa_nil))) pa_nil)))))
      (pss_one (ps_ret (pe_op op_cat (pv 1) (pe_lst (pa_cons (pe_tup (pa_cons pe_str (pa_cons (pe_callB call_isX (by rfl) T.isinstance (by decide +kernel) (pa_cons (pv 0) (pa_cons (pe_glob (v := .ref (D 26)) (by rfl) Z.m26 rfl) pa_nil))) pa_nil))) pa_nil))))))))))))))))), ?_⟩
    refine st_first (s1 := "input") (s2 := "refused") (D1 := D 0) (D2 := D 1) rfl he (hb 0 (by decide)) (hb 1 (by decide)) fun H1 l1 s1 r1 => ?_
    refine st_more (D1 := D 2) (D2 := D 3) rfl rfl r1 (Nat.le_of_ble_eq_true rfl) (he.keep s1) (hb 2 (by decide)) (hb 3 (by decide)) fun H2 l2 s2 r2 => ?_
    refine st_more (D1 := D 4) (D2 := D 5) rfl rfl r2 (Nat.le_of_ble_eq_true rfl) (he.keep (s1.trans s2)) (hb 4 (by decide)) (hb 5 (by decide)) fun H3 l3 s3 r3 => ?_
    refine st_more (D1 := D 6) (D2 := D 7) rfl rfl r3 (Nat.le_of_ble_eq_true rfl) (he.keep ((s1.trans s2).trans s3)) (hb 6 (by decide)) (hb 7 (by decide)) fun H4 l4 s4 r4 => ?_
    refine st_more (D1 := D 8) (D2 := D 9) rfl rfl r4 (Nat.le_of_ble_eq_true rfl) (he.keep (((s1.trans s2).trans s3).trans s4)) (hb 8 (by decide)) (hb 9 (by decide)) fun H5 l5 s5 r5 => ?_
    refine st_more (D1 := D 10) (D2 := D 11) rfl rfl r5 (Nat.le_of_ble_eq_true rfl) (he.keep ((((s1.trans s2).trans s3).trans s4).trans s5)) (hb 10 (by decide)) (hb 11 (by decide)) fun H6 l6 s6 r6 => ?_
    refine st_more (D1 := D 12) (D2 := D 13) rfl rfl r6 (Nat.le_of_ble_eq_true rfl) (he.keep (((((s1.trans s2).trans s3).trans s4).trans s5).trans s6)) (hb 12 (by decide)) (hb 13 (by decide)) fun H7 l7 s7 r7 => ?_
    refine st_more (D1 := D 14) (D2 := D 15) rfl rfl r7 (Nat.le_of_ble_eq_true rfl) (he.keep ((((((s1.trans s2).trans s3).trans s4).trans s5).trans s6).trans s7)) (hb 14 (by decide)) (hb 15 (by decide)) fun H8 l8 s8 r8 => ?_
    refine st_more (D1 := D 16) (D2 := D 17) rfl rfl r8 (Nat.le_of_ble_eq_true rfl) (he.keep (((((((s1.trans s2).trans s3).trans s4).trans s5).trans s6).trans s7).trans s8)) (hb 16 (by decide)) (hb 17 (by decide)) fun H9 l9 s9 r9 => ?_
    refine st_more (D1 := D 18) (D2 := D 19) rfl rfl r9 (Nat.le_of_ble_eq_true rfl) (he.keep ((((((((s1.trans s2).trans s3).trans s4).trans s5).trans s6).trans s7).trans s8).trans s9)) (hb 18 (by decide)) (hb 19 (by decide)) fun H10 l10 s10 r10 => ?_
    refine st_more (D1 := D 20) (D2 := D 21) rfl rfl r10 (Nat.le_of_ble_eq_true rfl) (he.keep (((((((((s1.trans s2).trans s3).trans s4).trans s5).trans s6).trans s7).trans s8).trans s9).trans s10)) (hb 20 (by decide)) (hb 21 (by decide)) fun H11 l11 s11 r11 => ?_
    refine st_more (D1 := D 22) (D2 := D 23) rfl rfl r11 (Nat.le_of_ble_eq_true rfl) (he.keep ((((((((((s1.trans s2).trans s3).trans s4).trans s5).trans s6).trans s7).trans s8).trans s9).trans s10).trans s11)) (hb 22 (by decide)) (hb 23 (by decide)) fun H12 l12 s12 r12 => ?_
    refine st_more (D1 := D 24) (D2 := D 25) rfl rfl r12 (Nat.le_of_ble_eq_true rfl) (he.keep (((((((((((s1.trans s2).trans s3).trans s4).trans s5).trans s6).trans s7).trans s8).trans s9).trans s10).trans s11).trans s12)) (hb 24 (by decide)) (hb 25 (by decide)) fun H13 l13 s13 r13 => ?_
    refine rd_last (D1 := D 26) rfl rfl r13 (Nat.le_of_ble_eq_true rfl) (he.keep ((((((((((((s1.trans s2).trans s3).trans s4).trans s5).trans s6).trans s7).trans s8).trans s9).trans s10).trans s11).trans s12).trans s13)) (hb 26 (by decide)) fun HF lF sF rF => ?_
    exact k HF lF (((((((((((((s1.trans s2).trans s3).trans s4).trans s5).trans s6).trans s7).trans s8).trans s9).trans s10).trans s11).trans s12).trans s13).trans sF) rF
end
end NB
namespace NB
open PySem L2
theorem Paired.at_ {α β : Type} {F : α → β → Prop} : ∀ {l₁ : List α} {l₂ : List β} {i : Nat} {a : α}, Paired F l₁ l₂ → l₁[i]? = some a → ∃ b, l₂[i]? = some b ∧ F a b
  | _, _, _, _, .nil, e => by simp at e
  | _, _, 0, _, .cons r _, e => by
    simp at e
    subst e
    exact ⟨_, rfl, r⟩
  | _, _, i + 1, _, .cons _ t, e => by
    obtain ⟨b, h1, h2⟩ := Paired.at_ (i := i) t (by simpa using e)
    exact ⟨b, by simpa using h1, h2⟩
theorem ref_at {ts : List Addr} {i : Nat} {x : V} (h : (ts.map V.ref)[i]? = some x) : ∃ t, ts[i]? = some t ∧ x = .ref t := by
  rw [List.getElem?_map] at h
  cases e : ts[i]? with
  | none =>
    rw [e] at h
    cases h
  | some t =>
    rw [e] at h
    exact ⟨t, rfl, (Option.some.inj h).symm⟩
section
variable {σ : SV} {H : Hp} {D : Ends} {te ta tb : TE} {tt : TT} {Q : VK} {QB : Bool → Hp → Prop} {K : PySem.W.Frag} {e C S : Addr} {b : Bool} {i : Nat}
theorem rd_ret (h : te σ H D.rt) : tRet te D σ H := h
theorem rd_ifE (h : tt σ H fun c H1 => if c = true then ta σ H1 Q else tb σ H1 Q) : tIf tt ta tb σ H Q := h
theorem rd_b (h : te σ H fun x H1 => ∃ c, x = .bl c ∧ QB c H1) : tB te σ H QB := h
theorem rd_isi (h0 : σ[i]? = some (some (.ref e))) (he : ErrAt K H e C) (k : PySem.W.kitOne K (.ref C) (.ref S) = some b) (q : Q (.bl b) H) :
    tCB (rIsX K) (tCons (tVar i) (tCons (tC (.ref S)) tNil)) σ H Q := rd_cb (rd_cons (rd_var h0 (rd_cons (rd_c (rd_nil (isx he k q))))))
end
def told (rows : List (Str × Bool)) : List V := (rows.filter (·.2)).map fun q => V.str q.1
theorem told_succ {rows : List (Str × Bool)} {i : Nat} {q : Str × Bool} (h : rows[i]? = some q) : told (rows.take (i + 1)) = told (rows.take i) ++ (if q.2 = true then [V.str q.1] else []) := by
  have hi := (List.getElem?_eq_some_iff.mp h).1
  have e : rows[i] = q := (List.getElem?_eq_some_iff.mp h).2
  unfold told
  rw [List.take_succ_eq_append_getElem hi, e, List.filter_append, List.map_append]
  cases hq : q.2 <;> simp [List.filter, hq]
section
variable {P : Program} {w : World} {K : PySem.W.Frag} {mg : Str → Option Value} {base : Heap} {D : Nat → Addr} {S : Addr}
abbrev sRaised : Stmt := top 34
theorem scRaised : FnScope ["_law_error", "_law_sign", "_law_is_so"] ["_law_error"] (defScope sRaised) := ⟨rfl, rfl, rfl, by decide +kernel, rfl, by decide +kernel, by decide +kernel⟩
def spRaised (K : PySem.W.Frag) (D : Nat → Addr) (S : Addr) : Sp := fun vs H Q _ => ∃ (e C : Addr) (bits : Nat → Bool), vs = [.ref e] ∧ ErrAt K H e C ∧ Sig K D C bits ∧ PySem.W.kitOne K (.ref C) (.ref S) = some true ∧
  ∀ (H' : Hp) (l : Addr), Same H H' → H' l = some (.lst (told (sigRows bits))) → Q (.ref l) H'
theorem ok_raised {f : Addr} {fd : FuncData} (F : Fun K "_law_raised" "_law_raised" sRaised f fd) (T : Bi mg) (mS : mg "StayError" = some (.ref S)) (G : DefOf P w K mg base "_law_signs" 1 ["_law_caught"] (spSigns K D)) :
    FnOk P w K mg base CX0 2 f fd ["_law_error"] (spRaised K D S) := by
  obtain ⟨fG, fdG, FG, mG, kG, bG⟩ := G.ex
  refine F.ok scRaised (fun vs H Q E h => ?_) (fun cdv A outer s H vs Q E hr h => ?_)
  · obtain ⟨e, C, bits, rfl, _⟩ := h
    rfl
  · obtain ⟨e, C, bits, rfl, he, hb, hS, k⟩ := h
    refine ⟨_, pss_one (ps_ret (pe_ifExp (pt_val (pe_callB call_isX (by rfl) T.isinstance (by decide +kernel) (pa_cons (pv 0) (pa_cons (pe_glob (v := .ref S) (by rfl) mS rfl) pa_nil))))
      (pe_lc (own := [("_law_sign", 1), ("_law_is_so", 2)]) (g := gTup K 2 (gCons (gName 1) (gCons (gName 2) gNil))) (tt := tB (tVar 2)) (te := tVar 1) rfl scRaised.nd (pi_list (pe_call FG hr rfl mG kG bG .nil pass0 (pa_cons (pv 0) pa_nil)))
        (blkOk_by (own := [("_law_sign", 1), ("_law_is_so", 2)]) (N := ["_law_error", "_law_sign", "_law_is_so"]) (sc := defScope sRaised) (by decide +kernel))
        (fun _ _ _ _ _ => pg_tup rfl (pgs_cons (pg_name (i := 1) scRaised.nd rfl (.inl rfl)) (pgs_cons (pg_name (i := 2) scRaised.nd rfl (.inl rfl)) pgs_nil)))
        (fun _ _ _ _ _ => pts_one (pt_val (pv 2))) (fun _ _ _ _ _ => pv 1)) pe_non)), ?_⟩
    refine rd_ret (rd_ifE (rd_b (rd_isi rfl he hS ⟨_, rfl, iteT ?_⟩)))
    refine ⟨_, rfl, e, C, bits, rfl, he, hb, fun H1 l s1 r1 => ?_⟩
    obtain ⟨ts, el, pr⟩ := r1
    refine ⟨l, rfl, ⟨_, SqL.of el⟩, fun B hB => ?_⟩
    refine lc_list (K := K) (a := l) (xs := ts.map V.ref) (fun i H' => Same H1 H' ∧ H' B = some (.lst (told ((sigRows bits).take i)))) ⟨same_new (Same.refl _) hB, upd_same⟩ (fun i H' _ p => SqL.of (p.1 _ _ el)) ?_ ?_
    · rintro i x H' hx ⟨sm, hD⟩
      obtain ⟨t, ht, rfl⟩ := ref_at hx
      obtain ⟨q, hq, eq⟩ := Paired.at_ pr ht
      have hi := (List.getElem?_eq_some_iff.mp hq).1
      refine ⟨t, _, rfl, .inl (.inl (sm _ _ eq)), rfl, _, _, rfl, _, _, rfl, rfl, rfl, ⟨_, rfl, _, rfl, ?_⟩⟩
      have nt := told_succ hq
      refine ite2 (fun b1 => ?_) (fun b1 => ?_)
      · refine ⟨_, rfl, _, hD, ?_, ?_⟩
        · have l1 : (told ((sigRows bits).take i)).length ≤ 27 := by
            unfold told
            rw [List.length_map]
            refine Nat.le_trans (List.length_filter_le _ _) ?_
            rw [List.length_take]
            exact Nat.min_le_right _ _
          rw [sizeLine_eq]
          omega
        · refine ⟨fun b o e => ?_, ?_⟩
          · rw [upd_ne (ne_of_none e hB)]
            exact sm b o e
          · rw [nt, if_pos b1]
            exact upd_same
      · refine ⟨sm, ?_⟩
        rw [nt, if_neg b1, List.append_nil]
        exact hD
    · rintro H' ⟨sm, hD⟩
      refine k H' B (s1.trans sm) ?_
      have lt : ts.length = (sigRows bits).length := Paired.length pr
      rw [List.length_map, lt, List.take_length] at hD
      exact hD
end
end NB
namespace NB
open PySem L2
/-! lists of objects that are told by rows -/
section
variable {ρ : Type} {F : Hp → Addr → ρ → Prop}
def Mono (F : Hp → Addr → ρ → Prop) : Prop := ∀ H H' t r, Same H H' → F H t r → F H' t r
def LRows (F : Hp → Addr → ρ → Prop) (H : Hp) (l : Addr) (rs : List ρ) : Prop := ∃ ts : List Addr, H l = some (.lst (ts.map V.ref)) ∧ Paired (F H) ts rs
theorem LRows.keep (m : Mono F) {H H' : Hp} {l : Addr} {rs : List ρ} (h : LRows F H l rs) (s : Same H H') : LRows F H' l rs := by
  obtain ⟨ts, e, p⟩ := h
  exact ⟨ts, s _ _ e, Paired.imp2 p fun t r z => m _ _ t r s z⟩
/-- an item's reading -/
def ItE (te : TE) (σ : SV) (H : Hp) (F : Hp → Addr → ρ → Prop) (r : ρ) : Prop := ∀ H1, Same H H1 → ∀ Q : VK, (∀ H2 t, Same H1 H2 → F H2 t r → Q (.ref t) H2) → te σ H1 Q
def ItA (ta : TA) (σ : SV) (H : Hp) (F : Hp → Addr → ρ → Prop) (rs : List ρ) : Prop := ∀ H1, Same H H1 → ∀ Q : List V → Hp → Prop, (∀ H2 (ts : List Addr), Same H1 H2 → Paired (F H2) ts rs → Q (ts.map V.ref) H2) → ta σ H1 Q
variable {te : TE} {ta : TA} {σ : SV} {H : Hp} {r : ρ} {rs rs0 : List ρ} {Q : VK}
theorem ia_nil : ItA tNil σ H F ([] : List ρ) := fun H1 _ Q q => q H1 [] (Same.refl _) .nil
theorem ia_cons (m : Mono F) (h1 : ItE te σ H F r) (h2 : ItA ta σ H F rs) : ItA (tCons te ta) σ H F (r :: rs) := fun H1 s1 Q q =>
  rd_cons (h1 H1 s1 _ fun H2 t s2 f => h2 H2 (s1.trans s2) _ fun H3 ts s3 p => q H3 (t :: ts) (s2.trans s3) (.cons (m _ _ _ _ s3 f) p))
theorem rd_lrows (m : Mono F) (h : ItA ta σ H F rs) (hz : rs.length ≤ 100) (q : ∀ H' l, Same H H' → LRows F H' l rs → Q (.ref l) H') : tLst ta σ H Q := by
  refine rd_lst (h H (Same.refl _) _ fun H1 ts s1 p => ?_)
  have lt : ts.length = rs.length := Paired.length p
  refine ⟨?_, fun l hl => ?_⟩
  · rw [List.length_map, lt, sizeLine_eq]
    omega
  · have s2 := same_new (o := .lst (ts.map V.ref)) (Same.refl H1) hl
    exact q _ l (s1.trans s2) ⟨ts, upd_same, Paired.imp2 p fun t r z => m _ _ t r s2 z⟩
theorem rd_lcat {i : Nat} {l : Addr} (m : Mono F) (hv : σ[i]? = some (some (.ref l))) (h0 : LRows F H l rs0) (h : ItA ta σ H F rs) (hz : rs0.length + rs.length ≤ 100)
    (q : ∀ H' l', Same H H' → LRows F H' l' (rs0 ++ rs) → Q (.ref l') H') : tOp rCat (tVar i) (tLst ta) σ H Q := by
  refine rd_op (rd_var hv (rd_lst (h H (Same.refl _) _ fun H1 ts s1 p => ?_)))
  obtain ⟨t0, e0, p0⟩ := h0
  have l0 : t0.length = rs0.length := Paired.length p0
  have lt : ts.length = rs.length := Paired.length p
  refine ⟨?_, fun b hb => ?_⟩
  · rw [List.length_map, lt, sizeLine_eq]
    omega
  · have s2 := same_new (o := .lst (ts.map V.ref)) (Same.refl H1) hb
    refine ⟨l, b, _, _, rfl, rfl, (s1.trans s2) _ _ e0, upd_same, ?_, fun g hg => ?_⟩
    · rw [List.length_map, List.length_map, lt, l0, sizeLine_eq]
      omega
    · have s3 := same_new (o := .lst (t0.map V.ref ++ ts.map V.ref)) s2 hg
      refine q _ g (s1.trans s3) ⟨t0 ++ ts, ?_, Paired.app (Paired.imp2 p0 fun t r z => m _ _ t r (s1.trans s3) z) (Paired.imp2 p fun t r z => m _ _ t r s3 z)⟩
      rw [List.map_append]
      exact upd_same
end
theorem vals_rev : ∀ {zs : List V} {ws : List Value}, Vals zs ws → Vals zs.reverse ws.reverse
  | _, _, .nil => .nil
  | _, _, .cons (a := a) (b := b) r t => by
    rw [List.reverse_cons, List.reverse_cons]
    exact (vals_rev t).append (.cons r .nil)
theorem upd_past {H : Hp} {B g : Addr} {o o' u : HO} (h : g ≠ B) : upd (upd (upd H B o) g u) B o' = upd (upd H g u) B o' := by
  funext x
  by_cases z : x = B
  · rw [z, upd_same, upd_same]
  · rw [upd_ne z, upd_ne z]
    by_cases y : x = g
    · rw [y, upd_same, upd_same]
    · rw [upd_ne y, upd_ne y, upd_ne z]
theorem rd_seq {t1 t2 : TS} {D : Ends} {σ : SV} {H : Hp} (h : t1 { D with nx := t2 D } σ H) : tSeq t1 t2 D σ H := h
theorem rd_sa {te : TE} {i : Nat} {t2 : TS} {D : Ends} {σ : SV} {H : Hp} (h : te σ H fun v H' => t2 D (σ.set i (some v)) H') : tSeq (tAsg te (gName i)) t2 D σ H := h
theorem rd_sp {ta : TA} {i j : Nat} {t2 : TS} {D : Ends} {σ : SV} {H : Hp} (h : ta σ H fun vs H1 => ∃ v w, vs = [v, w] ∧ t2 D ((σ.set i (some v)).set j (some w)) H1) : tSeq (tPar i j ta) t2 D σ H := h
theorem rd_sp3 {ta : TA} {i j l : Nat} {t2 : TS} {D : Ends} {σ : SV} {H : Hp} (h : ta σ H fun vs H1 => ∃ u v w, vs = [u, v, w] ∧ t2 D (((σ.set i (some u)).set j (some v)).set l (some w)) H1) : tSeq (tPar3 i j l ta) t2 D σ H := h
theorem rd_keep {T F : Hp → Prop} {σ : SV} {H : Hp} (h : T H) : tYes σ H (fun b H3 => if b = true then T H3 else F H3) := by
  show (if true = true then T H else F H)
  rw [if_pos rfl]
  exact h
/-- an error with its field -/
def ErrF (H : Hp) (a C : Addr) (f : Str) (v : V) : Prop := ∃ (d : Addr) (fs : List (Str × V)), H a = some (exo a C (some d)) ∧ H d = some (exd d fs) ∧ fs.lookup f = some v
theorem ErrF.keep {H H' : Hp} {a C : Addr} {f : Str} {v : V} (h : ErrF H a C f v) (s : Same H H') : ErrF H' a C f v := by
  obtain ⟨d, fs, x, y, z⟩ := h
  exact ⟨d, fs, s _ _ x, s _ _ y, z⟩
theorem ErrF.at_ {K : PySem.W.Frag} {H : Hp} {a C : Addr} {f : Str} {v : V} (h : ErrF H a C f v) (T : ExcC K C) : ErrAt K H a C := by
  obtain ⟨d, fs, x, y, z⟩ := h
  exact ⟨⟨some d, fs, .new x, .have_ (.new y)⟩, T⟩
section
variable {P : Program} {w : World} {K : PySem.W.Frag} {mg : Str → Option Value} {base : Heap} {x f : Str} {C : Addr} {σ : SV} {H : Hp} {i : Nat} {v : V} {Q : VK} {s : Str}
theorem rd_efld {a : Addr} (h0 : σ[i]? = some (some (.ref a))) (E : ErrF H a C f v) (T : XfC K C) (hn : PySem.W.findIn K (.ref C) f = some none) (q : Q v H) : tEfld K f (tVar i) σ H Q := by
  obtain ⟨d, fs, e1, e2, e3⟩ := E
  exact ⟨_, h0, a, C, d, fs, v, rfl, .new e1, .new e2, T, hn, e3, q⟩
theorem one_fs : (([f] : List Str).zip [v]).reverse.lookup f = some v := by
  show (([(f, v)] : List (Str × V))).lookup f = some v
  simp [List.lookup]
abbrev tPos (C : Addr) (f : Str) (i : Nat) : TE := tExv C (spI C [f]) (tCons (tVar i) tNil)
abbrev tKw (C : Addr) (f : Str) (i : Nat) : TE := tExv C (spI C [f]) fun σ H Q => tCons (tVar i) tNil σ H fun zs H1 => zs.length = ([f] : List Str).reverse.length ∧ Q zs.reverse H1
theorem rd_pos (h0 : σ[i]? = some (some v)) (q : ∀ H' a, Same H H' → ErrF H' a C f v → Q (.ref a) H') : tPos C f i σ H Q := by
  refine ⟨v, h0, mk_err rfl (by show 1 ≤ 1000; decide) fun H' a d s1 _ e1 e2 => q H' a s1 ⟨d, _, e1, e2, one_fs⟩⟩
theorem rd_kw (h0 : σ[i]? = some (some v)) (q : ∀ H' a, Same H H' → ErrF H' a C f v → Q (.ref a) H') : tKw C f i σ H Q := by
  refine ⟨v, h0, rfl, mk_err rfl (by show 1 ≤ 1000; decide) fun H' a d s1 _ e1 e2 => q H' a s1 ⟨d, _, e1, e2, one_fs⟩⟩
/-- (C(thing), s) -/
def F2 (v : V) (H : Hp) (t : Addr) (r : Addr × Str) : Prop := ∃ a, H t = some (.tup [.ref a, .str r.2]) ∧ ErrF H a r.1 "part" v
theorem F2.mono : Mono (F2 v) := fun H H' t r s h => by
  obtain ⟨a, e1, e2⟩ := h
  exact ⟨a, s _ _ e1, e2.keep s⟩
/-- (error, s, field) -/
def F3 (K : PySem.W.Frag) (v : V) (H : Hp) (t : Addr) (r : Addr × Str) : Prop := ∃ a, H t = some (.tup [.ref a, .str r.2, v]) ∧ ErrAt K H a r.1
theorem F3.mono : Mono (F3 K v) := fun H H' t r s h => by
  obtain ⟨a, e1, e2⟩ := h
  exact ⟨a, s _ _ e1, e2.keep s⟩
theorem it_pair {te : TE} (h : ∀ H1, Same H H1 → ∀ Q : VK, (∀ H' a, Same H1 H' → ErrF H' a C "part" v → Q (.ref a) H') → te σ H1 Q) : ItE (tTup (tCons te (tCons (tC (.str s)) tNil))) σ H (F2 v) (C, s) := fun H1 s1 Q q => by
  refine rd_tup (rd_cons (h H1 s1 _ fun H2 a s2 e => rd_cons (rd_c (rd_nil ⟨by show 2 ≤ sizeLine; decide, fun t ht => ?_⟩))))
  have s3 := same_new (o := .tup [.ref a, .str s]) (Same.refl H2) ht
  exact q _ t (s2.trans s3) ⟨a, upd_same, e.keep s3⟩
theorem it_trip {a : Addr} (h0 : σ[i]? = some (some (.ref a))) (E : ErrF H a C f v) (T : XfC K C) (hn : PySem.W.findIn K (.ref C) f = some none) (Z : ExcC K C) :
    ItE (tTup (tCons (tVar i) (tCons (tC (.str s)) (tCons (tEfld K f (tVar i)) tNil)))) σ H (F3 K v) (C, s) := fun H1 s1 Q q => by
  refine rd_tup (rd_cons (rd_var h0 (rd_cons (rd_c (rd_cons (rd_efld h0 (E.keep s1) T hn (rd_nil ⟨by show 3 ≤ sizeLine; decide, fun t ht => ?_⟩)))))))
  have s3 := same_new (o := .tup [.ref a, .str s, v]) (Same.refl H1) ht
  exact q _ t s3 ⟨a, upd_same, (E.keep (s1.trans s3)).at_ Z⟩
end
end NB
namespace NB
open PySem L2
section
variable {P : Program} {w : World} {K : PySem.W.Frag} {mg : Str → Option Value} {base : Heap}
abbrev sInputs : Stmt := top 36
theorem scInputs : FnScope ["_law_thing", "_law_made", "_law_found", "_law_one", "_law_two", "_law_three", "_law_four", "_law_last", "_law_error", "_law_sign"] ["_law_thing"] (defScope sInputs) := ⟨rfl, rfl, rfl, by decide +kernel, rfl, by decide +kernel, by decide +kernel⟩
def spThings (K : PySem.W.Frag) (rs : List (Addr × Str)) : Sp := fun vs H Q _ => ∃ v : V, vs = [v] ∧ ∀ (H' : Hp) (l : Addr), Same H H' → LRows (F3 K v) H' l rs → Q (.ref l) H'
theorem ok_inputs {f CBadLengths CBadDays CBadStay CBadRule CBadBook CBadStretch CBadCalendar CBadDoor CBadName CBadCount CBadWish CBadRow CBadLine : Addr} {fd : FuncData} (F : Fun K "_law_inputs" "_law_inputs" sInputs f fd) (EBadLengths : Err P w K mg base "BadLengths" ["part"] CBadLengths) (EBadDays : Err P w K mg base "BadDays" ["part"] CBadDays) (EBadStay : Err P w K mg base "BadStay" ["part"] CBadStay) (EBadRule : Err P w K mg base "BadRule" ["part"] CBadRule) (EBadBook : Err P w K mg base "BadBook" ["part"] CBadBook) (EBadStretch : Err P w K mg base "BadStretch" ["part"] CBadStretch) (EBadCalendar : Err P w K mg base "BadCalendar" ["part"] CBadCalendar) (EBadDoor : Err P w K mg base "BadDoor" ["part"] CBadDoor) (EBadName : Err P w K mg base "BadName" ["value"] CBadName) (EBadCount : Err P w K mg base "BadCount" ["value"] CBadCount) (EBadWish : Err P w K mg base "BadWish" ["at"] CBadWish) (EBadRow : Err P w K mg base "BadRow" ["at"] CBadRow) (EBadLine : Err P w K mg base "BadLine" ["word"] CBadLine) :
    FnOk P w K mg base CX0 3 f fd ["_law_thing"] (spThings K [(CBadLengths, "lengths"), (CBadDays, "days"), (CBadStay, "stay"), (CBadRule, "rule"), (CBadBook, "book"), (CBadStretch, "stretch"), (CBadCalendar, "calendar"), (CBadDoor, "door"), (CBadName, "name"), (CBadCount, "count"), (CBadWish, "wish"), (CBadRow, "row"), (CBadLine, "line")]) := by
  obtain ⟨fBadLengths, fdBadLengths, iBadLengths, tBadLengths, FBadLengths, bBadLengths, kBadLengths⟩ := EBadLengths.ini
  obtain ⟨fBadDays, fdBadDays, iBadDays, tBadDays, FBadDays, bBadDays, kBadDays⟩ := EBadDays.ini
  obtain ⟨fBadStay, fdBadStay, iBadStay, tBadStay, FBadStay, bBadStay, kBadStay⟩ := EBadStay.ini
  obtain ⟨fBadRule, fdBadRule, iBadRule, tBadRule, FBadRule, bBadRule, kBadRule⟩ := EBadRule.ini
  obtain ⟨fBadBook, fdBadBook, iBadBook, tBadBook, FBadBook, bBadBook, kBadBook⟩ := EBadBook.ini
  obtain ⟨fBadStretch, fdBadStretch, iBadStretch, tBadStretch, FBadStretch, bBadStretch, kBadStretch⟩ := EBadStretch.ini
  obtain ⟨fBadCalendar, fdBadCalendar, iBadCalendar, tBadCalendar, FBadCalendar, bBadCalendar, kBadCalendar⟩ := EBadCalendar.ini
  obtain ⟨fBadDoor, fdBadDoor, iBadDoor, tBadDoor, FBadDoor, bBadDoor, kBadDoor⟩ := EBadDoor.ini
  obtain ⟨fBadName, fdBadName, iBadName, tBadName, FBadName, bBadName, kBadName⟩ := EBadName.ini
  obtain ⟨fBadCount, fdBadCount, iBadCount, tBadCount, FBadCount, bBadCount, kBadCount⟩ := EBadCount.ini
  obtain ⟨fBadWish, fdBadWish, iBadWish, tBadWish, FBadWish, bBadWish, kBadWish⟩ := EBadWish.ini
  obtain ⟨fBadRow, fdBadRow, iBadRow, tBadRow, FBadRow, bBadRow, kBadRow⟩ := EBadRow.ini
  obtain ⟨fBadLine, fdBadLine, iBadLine, tBadLine, FBadLine, bBadLine, kBadLine⟩ := EBadLine.ini
  refine F.ok scInputs (fun vs H Q E h => ?_) (fun cdv A outer s H vs Q E hr h => ?_)
  · obtain ⟨v, rfl, _⟩ := h
    rfl
  · obtain ⟨v, rfl, k⟩ := h
    refine ⟨_, pss_cons (ps_set (i := 1) scInputs.nd rfl (.inl rfl) (pe_lst (pa_cons (pe_tup (pa_cons (pe_exv EBadLengths.oex iBadLengths tBadLengths FBadLengths hr bBadLengths (by rfl) EBadLengths.mgC (pa_cons (pv 0) pa_nil)) (pa_cons pe_str pa_nil))) (pa_cons (pe_tup (pa_cons (pe_exvK (ks := (["part"] : List Str).reverse) (g := List.reverse) (gV := List.reverse) EBadDays.oex iBadDays tBadDays FBadDays hr kBadDays (fun _ r => vals_rev r) (by rfl) EBadDays.mgC (pk_cons (pv 0) pk_nil)) (pa_cons pe_str pa_nil))) (pa_cons (pe_tup (pa_cons (pe_exv EBadStay.oex iBadStay tBadStay FBadStay hr bBadStay (by rfl) EBadStay.mgC (pa_cons (pv 0) pa_nil)) (pa_cons pe_str pa_nil))) pa_nil)))))
      (pss_cons (ps_set (i := 1) scInputs.nd rfl (.inl rfl) (pe_op op_cat (pv 1) (pe_lst (pa_cons (pe_tup (pa_cons (pe_exvK (ks := (["part"] : List Str).reverse) (g := List.reverse) (gV := List.reverse) EBadRule.oex iBadRule tBadRule FBadRule hr kBadRule (fun _ r => vals_rev r) (by rfl) EBadRule.mgC (pk_cons (pv 0) pk_nil)) (pa_cons pe_str pa_nil))) (pa_cons (pe_tup (pa_cons (pe_exv EBadBook.oex iBadBook tBadBook FBadBook hr bBadBook (by rfl) EBadBook.mgC (pa_cons (pv 0) pa_nil)) (pa_cons pe_str pa_nil))) (pa_cons (pe_tup (pa_cons (pe_exvK (ks := (["part"] : List Str).reverse) (g := List.reverse) (gV := List.reverse) EBadStretch.oex iBadStretch tBadStretch FBadStretch hr kBadStretch (fun _ r => vals_rev r) (by rfl) EBadStretch.mgC (pk_cons (pv 0) pk_nil)) (pa_cons pe_str pa_nil))) pa_nil))))))
      (pss_cons (ps_set (i := 1) scInputs.nd rfl (.inl rfl) (pe_op op_cat (pv 1) (pe_lst (pa_cons (pe_tup (pa_cons (pe_exv EBadCalendar.oex iBadCalendar tBadCalendar FBadCalendar hr bBadCalendar (by rfl) EBadCalendar.mgC (pa_cons (pv 0) pa_nil)) (pa_cons pe_str pa_nil))) (pa_cons (pe_tup (pa_cons (pe_exvK (ks := (["part"] : List Str).reverse) (g := List.reverse) (gV := List.reverse) EBadDoor.oex iBadDoor tBadDoor FBadDoor hr kBadDoor (fun _ r => vals_rev r) (by rfl) EBadDoor.mgC (pk_cons (pv 0) pk_nil)) (pa_cons pe_str pa_nil))) pa_nil)))))
      (pss_cons (ps_setLc (i := 2) (own := [("_law_error", 8), ("_law_sign", 9)]) (g := gTup K 2 (gCons (gName 8) (gCons (gName 9) gNil))) (tt := tYes) (te := tTup (tCons (tVar 8) (tCons (tVar 9) (tCons (tEfld K "part" (tVar 8)) tNil)))) rfl scInputs.nd rfl rfl (sw_true rfl rfl rfl (by decide +kernel)) (pi_list (pv 1))
        (blkOk_by (own := [("_law_error", 8), ("_law_sign", 9)]) (N := ["_law_thing", "_law_made", "_law_found", "_law_one", "_law_two", "_law_three", "_law_four", "_law_last", "_law_error", "_law_sign"]) (sc := defScope sInputs) (by decide +kernel))
        (fun _ _ _ _ _ => pg_tup rfl (pgs_cons (pg_name (i := 8) scInputs.nd rfl (.inl rfl)) (pgs_cons (pg_name (i := 9) scInputs.nd rfl (.inl rfl)) pgs_nil)))
        (fun _ _ _ _ _ => pts_nil) (fun _ _ _ _ _ => pe_tup (pa_cons (pv 8) (pa_cons (pv 9) (pa_cons (pe_efld (pv 8)) pa_nil)))))
      (pss_cons (ps_par (i := 3) (j := 4) rfl scInputs.nd rfl rfl (by decide) rfl rfl (pa_cons (pe_exv EBadName.oex iBadName tBadName FBadName hr bBadName (by rfl) EBadName.mgC (pa_cons (pv 0) pa_nil)) (pa_cons (pe_exvK (ks := (["value"] : List Str).reverse) (g := List.reverse) (gV := List.reverse) EBadCount.oex iBadCount tBadCount FBadCount hr kBadCount (fun _ r => vals_rev r) (by rfl) EBadCount.mgC (pk_cons (pv 0) pk_nil)) pa_nil)) (by rfl))
      (pss_cons (ps_par (i := 5) (j := 6) rfl scInputs.nd rfl rfl (by decide) rfl rfl (pa_cons (pe_exvK (ks := (["at"] : List Str).reverse) (g := List.reverse) (gV := List.reverse) EBadWish.oex iBadWish tBadWish FBadWish hr kBadWish (fun _ r => vals_rev r) (by rfl) EBadWish.mgC (pk_cons (pv 0) pk_nil)) (pa_cons (pe_exv EBadRow.oex iBadRow tBadRow FBadRow hr bBadRow (by rfl) EBadRow.mgC (pa_cons (pv 0) pa_nil)) pa_nil)) (by rfl))
      (pss_cons (ps_set (i := 2) scInputs.nd rfl (.inl rfl) (pe_op op_cat (pv 2) (pe_lst (pa_cons (pe_tup (pa_cons (pv 3) (pa_cons pe_str (pa_cons (pe_efld (pv 3)) pa_nil)))) (pa_cons (pe_tup (pa_cons (pv 4) (pa_cons pe_str (pa_cons (pe_efld (pv 4)) pa_nil)))) pa_nil)))))
      (pss_cons (ps_set (i := 7) scInputs.nd rfl (.inl rfl) (pe_exv EBadLine.oex iBadLine tBadLine FBadLine hr bBadLine (by rfl) EBadLine.mgC (pa_cons (pv 0) pa_nil)))
      (pss_one (ps_ret (pe_op op_cat (pv 2) (pe_lst (pa_cons (pe_tup (pa_cons (pv 5) (pa_cons pe_str (pa_cons (pe_efld (pv 5)) pa_nil)))) (pa_cons (pe_tup (pa_cons (pv 6) (pa_cons pe_str (pa_cons (pe_efld (pv 6)) pa_nil)))) (pa_cons (pe_tup (pa_cons (pv 7) (pa_cons pe_str (pa_cons (pe_efld (pv 7)) pa_nil)))) pa_nil)))))))))))))), ?_⟩
    refine rd_sa (rd_lrows F2.mono (ia_cons F2.mono (it_pair (C := CBadLengths) (s := "lengths") fun _ _ _ q => rd_pos rfl q) (ia_cons F2.mono (it_pair (C := CBadDays) (s := "days") fun _ _ _ q => rd_kw rfl q) (ia_cons F2.mono (it_pair (C := CBadStay) (s := "stay") fun _ _ _ q => rd_pos rfl q) ia_nil))) (Nat.le_of_ble_eq_true rfl) fun H1 l1 s1 r1 => ?_)
    refine rd_sa (rd_lcat F2.mono rfl r1 (ia_cons F2.mono (it_pair (C := CBadRule) (s := "rule") fun _ _ _ q => rd_kw rfl q) (ia_cons F2.mono (it_pair (C := CBadBook) (s := "book") fun _ _ _ q => rd_pos rfl q) (ia_cons F2.mono (it_pair (C := CBadStretch) (s := "stretch") fun _ _ _ q => rd_kw rfl q) ia_nil))) (Nat.le_of_ble_eq_true rfl) fun H2 l2 s2 r2 => ?_)
    refine rd_sa (rd_lcat F2.mono rfl r2 (ia_cons F2.mono (it_pair (C := CBadCalendar) (s := "calendar") fun _ _ _ q => rd_pos rfl q) (ia_cons F2.mono (it_pair (C := CBadDoor) (s := "door") fun _ _ _ q => rd_kw rfl q) ia_nil)) (Nat.le_of_ble_eq_true rfl) fun H3 l3 s3 r3 => ?_)
    have cls : ∀ q ∈ [((CBadLengths : Addr), ("lengths" : Str)), ((CBadDays : Addr), ("days" : Str)), ((CBadStay : Addr), ("stay" : Str)), ((CBadRule : Addr), ("rule" : Str)), ((CBadBook : Addr), ("book" : Str)), ((CBadStretch : Addr), ("stretch" : Str)), ((CBadCalendar : Addr), ("calendar" : Str)), ((CBadDoor : Addr), ("door" : Str))], XfC K q.1 ∧ PySem.W.findIn K (.ref q.1) "part" = some none ∧ ExcC K q.1 := by
      intro q hq
      simp only [List.mem_cons, List.mem_nil_iff, or_false] at hq
      rcases hq with rfl | rfl | rfl | rfl | rfl | rfl | rfl | rfl
      · exact ⟨EBadLengths.xf, EBadLengths.nf _ (List.mem_cons_self ..), EBadLengths.ec⟩
      · exact ⟨EBadDays.xf, EBadDays.nf _ (List.mem_cons_self ..), EBadDays.ec⟩
      · exact ⟨EBadStay.xf, EBadStay.nf _ (List.mem_cons_self ..), EBadStay.ec⟩
      · exact ⟨EBadRule.xf, EBadRule.nf _ (List.mem_cons_self ..), EBadRule.ec⟩
      · exact ⟨EBadBook.xf, EBadBook.nf _ (List.mem_cons_self ..), EBadBook.ec⟩
      · exact ⟨EBadStretch.xf, EBadStretch.nf _ (List.mem_cons_self ..), EBadStretch.ec⟩
      · exact ⟨EBadCalendar.xf, EBadCalendar.nf _ (List.mem_cons_self ..), EBadCalendar.ec⟩
      · exact ⟨EBadDoor.xf, EBadDoor.nf _ (List.mem_cons_self ..), EBadDoor.ec⟩
    obtain ⟨ts, el, pr⟩ := r3
    have pr : Paired (F2 v H3) ts [((CBadLengths : Addr), ("lengths" : Str)), ((CBadDays : Addr), ("days" : Str)), ((CBadStay : Addr), ("stay" : Str)), ((CBadRule : Addr), ("rule" : Str)), ((CBadBook : Addr), ("book" : Str)), ((CBadStretch : Addr), ("stretch" : Str)), ((CBadCalendar : Addr), ("calendar" : Str)), ((CBadDoor : Addr), ("door" : Str))] := pr
    refine rd_sa ?_
    refine ⟨_, rfl, l3, rfl, ⟨_, SqL.of el⟩, fun B hB => ?_⟩
    refine lc_list (K := K) (a := l3) (xs := ts.map V.ref) (fun i H' => ∃ (Hn : Hp) (us : List Addr), Same H3 Hn ∧ Hn B = none ∧ Paired (F3 K v Hn) us (([((CBadLengths : Addr), ("lengths" : Str)), ((CBadDays : Addr), ("days" : Str)), ((CBadStay : Addr), ("stay" : Str)), ((CBadRule : Addr), ("rule" : Str)), ((CBadBook : Addr), ("book" : Str)), ((CBadStretch : Addr), ("stretch" : Str)), ((CBadCalendar : Addr), ("calendar" : Str)), ((CBadDoor : Addr), ("door" : Str))]).take i) ∧ H' = upd Hn B (.lst (us.map V.ref)))
      ⟨H3, [], Same.refl _, hB, .nil, rfl⟩ (fun i H' _ p => ?_) ?_ ?_
    · obtain ⟨Hn, us, sm, nB, _, rfl⟩ := p
      exact SqL.of ((same_new (Same.refl _) nB) _ _ (sm _ _ el))
    · rintro i x H' hx ⟨Hn, us, sm, nB, pu, rfl⟩
      obtain ⟨t, ht, rfl⟩ := ref_at hx
      obtain ⟨q, hq, a, e1, e2⟩ := Paired.at_ pr ht
      have hi := (List.getElem?_eq_some_iff.mp hq).1
      obtain ⟨c1, c2, c3⟩ := cls q (List.mem_of_getElem? hq)
      have sB := same_new (o := .lst (us.map V.ref)) (Same.refl Hn) nB
      refine ⟨t, _, rfl, .inl (.inl (sB _ _ (sm _ _ e1))), rfl, _, _, rfl, _, _, rfl, rfl, rfl, ?_⟩
      refine rd_keep ?_
      refine rd_tup (rd_cons (rd_var rfl (rd_cons (rd_var rfl (rd_cons (rd_efld rfl (e2.keep (sm.trans sB)) c1 c2 (rd_nil ⟨by show 3 ≤ sizeLine; decide, fun g hg => ?_⟩)))))))
      obtain ⟨ngB, hg⟩ := fresh_upd hg
      have s3 := same_new (o := .tup [.ref a, .str q.2, v]) (Same.refl Hn) hg
      have lu : us.length = i := by
        rw [Paired.length pu, List.length_take]
        exact Nat.min_eq_left (Nat.le_of_lt hi)
      refine ⟨us.map V.ref, (by rw [upd_ne ngB.symm]; exact upd_same), ?_, upd Hn g (.tup [.ref a, .str q.2, v]), us ++ [g], sm.trans s3, (by rw [upd_ne ngB.symm]; exact nB), ?_, ?_⟩
      · rw [List.length_map, lu, sizeLine_eq]
        have : i < 8 := hi
        omega
      · rw [List.take_succ_eq_append_getElem hi, (List.getElem?_eq_some_iff.mp hq).2]
        exact Paired.app (Paired.imp2 pu fun t r z => F3.mono _ _ t r s3 z) (.cons ⟨a, upd_same, (e2.keep (sm.trans s3)).at_ c3⟩ .nil)
      · rw [upd_past ngB, List.map_append]
        rfl
    · rintro H' ⟨Hn, us, sm, nB, pu, rfl⟩
      have lt : ts.length = 8 := Paired.length pr
      rw [List.length_map, lt] at pu
      have sB := same_new (o := .lst (us.map V.ref)) (Same.refl Hn) nB
      have r4 : LRows (F3 K v) (upd Hn B (.lst (us.map V.ref))) B _ := ⟨us, upd_same, Paired.imp2 pu fun t r z => F3.mono _ _ t r sB z⟩
      have s4 : Same H (upd Hn B (.lst (us.map V.ref))) := s1.trans (s2.trans (s3.trans (sm.trans sB)))
      generalize upd Hn B (.lst (us.map V.ref)) = H4 at r4 s4
      clear pu nB sB
      refine rd_sp (rd_cons (rd_pos (C := CBadName) (f := "value") rfl fun H5 a5 s5 e5 => rd_cons (rd_kw (C := CBadCount) (f := "value") rfl fun H6 a6 s6 e6 => rd_nil ⟨_, _, rfl, ?_⟩)))
      refine rd_sp (rd_cons (rd_kw (C := CBadWish) (f := "at") rfl fun H7 a7 s7 e7 => rd_cons (rd_pos (C := CBadRow) (f := "at") rfl fun H8 a8 s8 e8 => rd_nil ⟨_, _, rfl, ?_⟩)))
      have s58 := s6.trans (s7.trans s8)
      refine rd_sa (rd_lcat F3.mono rfl (r4.keep F3.mono (s5.trans s58)) (ia_cons F3.mono (it_trip (C := CBadName) (s := "name") rfl (e5.keep s58) EBadName.xf (EBadName.nf _ (List.mem_cons_self ..)) EBadName.ec)
        (ia_cons F3.mono (it_trip (C := CBadCount) (s := "count") rfl (e6.keep (s7.trans s8)) EBadCount.xf (EBadCount.nf _ (List.mem_cons_self ..)) EBadCount.ec) ia_nil)) (Nat.le_of_ble_eq_true rfl) fun H9 l9 s9 r9 => ?_)
      refine rd_sa (rd_pos (C := CBadLine) (f := "word") rfl fun HA aA sA eA => ?_)
      have s9A := s9.trans sA
      refine rd_ret (rd_lcat F3.mono rfl (r9.keep F3.mono sA) (ia_cons F3.mono (it_trip (C := CBadWish) (s := "wish") rfl (e7.keep (s8.trans s9A)) EBadWish.xf (EBadWish.nf _ (List.mem_cons_self ..)) EBadWish.ec)
        (ia_cons F3.mono (it_trip (C := CBadRow) (s := "row") rfl (e8.keep s9A) EBadRow.xf (EBadRow.nf _ (List.mem_cons_self ..)) EBadRow.ec)
        (ia_cons F3.mono (it_trip (C := CBadLine) (s := "line") rfl eA EBadLine.xf (EBadLine.nf _ (List.mem_cons_self ..)) EBadLine.ec) ia_nil))) (Nat.le_of_ble_eq_true rfl) fun HB lB sB rB => ?_)
      exact k HB lB (s4.trans (s5.trans (s58.trans (s9A.trans sB)))) rB
end
end NB
namespace NB
open PySem L2
section
variable {P : Program} {w : World} {K : PySem.W.Frag} {mg : Str → Option Value} {base : Heap}
abbrev sOthers : Stmt := top 37
theorem scOthers : FnScope ["_law_thing", "_law_one", "_law_two", "_law_three", "_law_found"] ["_law_thing"] (defScope sOthers) := ⟨rfl, rfl, rfl, by decide +kernel, rfl, by decide +kernel, by decide +kernel⟩
theorem ok_others {f CTaken CNoGuest CNotLet COutside CFull CLoose : Addr} {fd : FuncData} (F : Fun K "_law_others" "_law_others" sOthers f fd) (ETaken : Err P w K mg base "Taken" ["name"] CTaken) (ENoGuest : Err P w K mg base "NoGuest" ["name"] CNoGuest) (ENotLet : Err P w K mg base "NotLet" ["stay"] CNotLet) (EOutside : Err P w K mg base "Outside" ["stay"] COutside) (EFull : Err P w K mg base "Full" ["night"] CFull) (ELoose : Err P w K mg base "Loose" ["name"] CLoose) :
    FnOk P w K mg base CX0 3 f fd ["_law_thing"] (spThings K [(CTaken, "taken"), (CNoGuest, "guest"), (CNotLet, "let"), (COutside, "outside"), (CFull, "full"), (CLoose, "loose")]) := by
  obtain ⟨fTaken, fdTaken, iTaken, tTaken, FTaken, bTaken, kTaken⟩ := ETaken.ini
  obtain ⟨fNoGuest, fdNoGuest, iNoGuest, tNoGuest, FNoGuest, bNoGuest, kNoGuest⟩ := ENoGuest.ini
  obtain ⟨fNotLet, fdNotLet, iNotLet, tNotLet, FNotLet, bNotLet, kNotLet⟩ := ENotLet.ini
  obtain ⟨fOutside, fdOutside, iOutside, tOutside, FOutside, bOutside, kOutside⟩ := EOutside.ini
  obtain ⟨fFull, fdFull, iFull, tFull, FFull, bFull, kFull⟩ := EFull.ini
  obtain ⟨fLoose, fdLoose, iLoose, tLoose, FLoose, bLoose, kLoose⟩ := ELoose.ini
  refine F.ok scOthers (fun vs H Q E h => ?_) (fun cdv A outer s H vs Q E hr h => ?_)
  · obtain ⟨v, rfl, _⟩ := h
    rfl
  · obtain ⟨v, rfl, k⟩ := h
    refine ⟨_, pss_cons (ps_par3 (i := 1) (j := 2) (l := 3) rfl scOthers.nd rfl rfl rfl (by decide) (by decide) (by decide) rfl rfl rfl (pa_cons (pe_exv ETaken.oex iTaken tTaken FTaken hr bTaken (by rfl) ETaken.mgC (pa_cons (pv 0) pa_nil)) (pa_cons (pe_exvK (ks := (["name"] : List Str).reverse) (g := List.reverse) (gV := List.reverse) ENoGuest.oex iNoGuest tNoGuest FNoGuest hr kNoGuest (fun _ r => vals_rev r) (by rfl) ENoGuest.mgC (pk_cons (pv 0) pk_nil)) (pa_cons (pe_exv ENotLet.oex iNotLet tNotLet FNotLet hr bNotLet (by rfl) ENotLet.mgC (pa_cons (pv 0) pa_nil)) pa_nil))) (by rfl))
      (pss_cons (ps_set (i := 4) scOthers.nd rfl (.inl rfl) (pe_lst (pa_cons (pe_tup (pa_cons (pv 1) (pa_cons pe_str (pa_cons (pe_efld (pv 1)) pa_nil)))) (pa_cons (pe_tup (pa_cons (pv 2) (pa_cons pe_str (pa_cons (pe_efld (pv 2)) pa_nil)))) (pa_cons (pe_tup (pa_cons (pv 3) (pa_cons pe_str (pa_cons (pe_efld (pv 3)) pa_nil)))) pa_nil)))))
      (pss_cons (ps_par3 (i := 1) (j := 2) (l := 3) rfl scOthers.nd rfl rfl rfl (by decide) (by decide) (by decide) rfl rfl rfl (pa_cons (pe_exvK (ks := (["stay"] : List Str).reverse) (g := List.reverse) (gV := List.reverse) EOutside.oex iOutside tOutside FOutside hr kOutside (fun _ r => vals_rev r) (by rfl) EOutside.mgC (pk_cons (pv 0) pk_nil)) (pa_cons (pe_exv EFull.oex iFull tFull FFull hr bFull (by rfl) EFull.mgC (pa_cons (pv 0) pa_nil)) (pa_cons (pe_exvK (ks := (["name"] : List Str).reverse) (g := List.reverse) (gV := List.reverse) ELoose.oex iLoose tLoose FLoose hr kLoose (fun _ r => vals_rev r) (by rfl) ELoose.mgC (pk_cons (pv 0) pk_nil)) pa_nil))) (by rfl))
      (pss_one (ps_ret (pe_op op_cat (pv 4) (pe_lst (pa_cons (pe_tup (pa_cons (pv 1) (pa_cons pe_str (pa_cons (pe_efld (pv 1)) pa_nil)))) (pa_cons (pe_tup (pa_cons (pv 2) (pa_cons pe_str (pa_cons (pe_efld (pv 2)) pa_nil)))) (pa_cons (pe_tup (pa_cons (pv 3) (pa_cons pe_str (pa_cons (pe_efld (pv 3)) pa_nil)))) pa_nil))))))))), ?_⟩
    refine rd_sp3 (rd_cons (rd_pos (C := CTaken) (f := "name") rfl fun H1 a1 s1 e1 => rd_cons (rd_kw (C := CNoGuest) (f := "name") rfl fun H2 a2 s2 e2 => rd_cons (rd_pos (C := CNotLet) (f := "stay") rfl fun H3 a3 s3 e3 => rd_nil ⟨_, _, _, rfl, ?_⟩))))
    refine rd_sa (rd_lrows F3.mono (ia_cons F3.mono (it_trip (C := CTaken) (s := "taken") rfl (e1.keep (s2.trans s3)) ETaken.xf (ETaken.nf _ (List.mem_cons_self ..)) ETaken.ec) (ia_cons F3.mono (it_trip (C := CNoGuest) (s := "guest") rfl (e2.keep s3) ENoGuest.xf (ENoGuest.nf _ (List.mem_cons_self ..)) ENoGuest.ec) (ia_cons F3.mono (it_trip (C := CNotLet) (s := "let") rfl e3 ENotLet.xf (ENotLet.nf _ (List.mem_cons_self ..)) ENotLet.ec) ia_nil))) (Nat.le_of_ble_eq_true rfl) fun H4 l4 s4 r4 => ?_)
    refine rd_sp3 (rd_cons (rd_kw (C := COutside) (f := "stay") rfl fun H5 a5 s5 e5 => rd_cons (rd_pos (C := CFull) (f := "night") rfl fun H6 a6 s6 e6 => rd_cons (rd_kw (C := CLoose) (f := "name") rfl fun H7 a7 s7 e7 => rd_nil ⟨_, _, _, rfl, ?_⟩))))
    have s57 := s5.trans (s6.trans s7)
    refine rd_ret (rd_lcat F3.mono rfl (r4.keep F3.mono s57) (ia_cons F3.mono (it_trip (C := COutside) (s := "outside") rfl (e5.keep (s6.trans s7)) EOutside.xf (EOutside.nf _ (List.mem_cons_self ..)) EOutside.ec) (ia_cons F3.mono (it_trip (C := CFull) (s := "full") rfl (e6.keep s7) EFull.xf (EFull.nf _ (List.mem_cons_self ..)) EFull.ec) (ia_cons F3.mono (it_trip (C := CLoose) (s := "loose") rfl e7 ELoose.xf (ELoose.nf _ (List.mem_cons_self ..)) ELoose.ec) ia_nil))) (Nat.le_of_ble_eq_true rfl) fun HB lB sB rB => ?_)
    exact k HB lB (s1.trans (s2.trans (s3.trans (s4.trans (s57.trans sB))))) rB
end
end NB
namespace NB
open PySem L2
/-- an error of the class at C is told as vs -/
def RowOk (K : PySem.W.Frag) (D : Nat → Addr) (S C : Addr) (vs : List V) : Prop := ∃ bits, Sig K D C bits ∧ told (sigRows bits) = vs ∧ PySem.W.kitOne K (.ref C) (.ref S) = some true
section
variable {K : PySem.W.Frag} {D : Nat → Addr} {S C : Addr} {σ : SV} {H : Hp} {i j : Nat} {te : TE} {Q : VK} {QB : Bool → Hp → Prop} {vs : List V} {e l : Addr} {g s : Str}
abbrev tRs (K : PySem.W.Frag) (D : Nat → Addr) (S : Addr) (te : TE) : TE := tCall (spRaised K D S) [] E0 (tCons te tNil)
theorem rd_rs (h : te σ H fun x H1 => spRaised K D S [x] H1 Q E0) : tRs K D S te σ H Q := h
theorem sp_rs (he : ErrAt K H e C) (R : RowOk K D S C vs) (q : ∀ H' l, Same H H' → H' l = some (.lst vs) → Q (.ref l) H') : spRaised K D S [.ref e] H Q E0 := by
  obtain ⟨bits, hb, ht, hS⟩ := R
  exact ⟨e, C, bits, rfl, he, hb, hS, fun H2 l sm hl => q H2 l sm (by rw [hl, ht])⟩
theorem new_at {a : Addr} (h : H a = none) (T : ExcC K C) : ErrAt K (upd H a (ExO (.ref C) a)) a C := ⟨⟨none, [], .plain rfl upd_same, .no⟩, T⟩
theorem ne2_end (hsh : SeqAt.shaped (.list [.str g, .str s]) = true) (hl : H l = some (.lst [.str g, .str s])) (q : ∀ H', Same H H' → QB false H') :
    ([V.str g, V.str s] : List V).length ≤ sizeLine ∧ ∀ p, H p = none → rNeD K (.ref l) (.ref p) (upd H p (.lst [.str g, .str s])) fun x H' => ∃ k, x = .bl k ∧ QB k H' := by
  refine ⟨by show 2 ≤ sizeLine; decide, fun m hm => ?_⟩
  refine ⟨.list [.str g, .str s], .list [.str g, .str s], .lst (SqL.of (same_new (Same.refl _) hm _ _ hl)) (.cons (.str g) (.cons (.str s) .nil)), .lst (SqL.of upd_same) (.cons (.str g) (.cons (.str s) .nil)), hsh, hsh, false, ?_, q _ (same_new (Same.refl _) hm)⟩
  show V.bl (!PyData.eqv (.list [.str g, .str s]) (.list [.str g, .str s])) = V.bl false
  rw [SeqAt.eqv_refl _ (SeqAt.canLay_of_shaped hsh)]
  rfl
theorem rd_test {te : TE} (h : te σ H fun x H' => ∃ k, x = .bl k ∧ QB k H') : tTest te σ H QB := h
theorem rd_repr {v : V} {d : PyData} (h0 : σ[i]? = some (some v)) (hd : DR K H v d) (sm : Small d) (q : Q (.str d.shown) H) : tCB (rRepr K) (tCons (tVar i) tNil) σ H Q :=
  ⟨v, h0, v, d, rfl, hd, sm.sh, Nat.le_trans sm.dp (by decide), Nat.le_trans sm.ln (by decide), q⟩
theorem ne_same {z : Str} (q : QB false H) : rNe (.str z) (.str z) H fun x H' => ∃ k, x = .bl k ∧ QB k H' := by
  refine ⟨rfl, false, ?_, q⟩
  show V.bl (!decide (V.str z = V.str z)) = V.bl false
  rw [decide_eq_true rfl]
  rfl
theorem rd_or {A B : TT} (h : A σ H fun c H1 => if c = true then QB true H1 else B σ H1 QB) : tOr A B σ H QB := h
theorem rd_andV {ta tb : TE} (h : ta σ H fun x H1 => ∃ c, x = .bl c ∧ if c = true then tb σ H1 Q else Q (.bl false) H1) : tAndV ta tb σ H Q := h
theorem rd_ifs {A : TT} {t u : TS} {DD : Ends} (h : A σ H fun b H1 => if b = true then t DD σ H1 else u DD σ H1) : tIfS A t u DD σ H := h
theorem rd_sif0 {A : TT} {t t2 : TS} {DD : Ends} (h : A σ H fun b H1 => if b = true then t { DD with nx := t2 DD } σ H1 else t2 DD σ H1) : tSeq (tIfS A t tNext) t2 DD σ H := h
theorem rd_if0 {A : TT} {t : TS} {DD : Ends} (h : A σ H fun b H1 => if b = true then t DD σ H1 else DD.nx σ H1) : tIfS A t tNext DD σ H := h
theorem rd_lstM {ta : TA} (h : ta σ H fun xs H1 => xs.length ≤ sizeLine ∧ ∀ p, H1 p = none → p ≠ sysModules → Q (.ref p) (upd H1 p (.lst xs))) : tLstM ta σ H Q := h
theorem rd_sif {A : TT} {t u t2 : TS} {DD : Ends} (h : A σ H fun b H1 => if b = true then t { DD with nx := t2 DD } σ H1 else u { DD with nx := t2 DD } σ H1) : tSeq (tIfS A t u) t2 DD σ H := h
end
section
variable {σ : SV} {H : Hp} {Q : VK} {C : Addr} {f g : Str} {i j : Nat} {u v : V} {tu tv : TE}
theorem rd_pos2 (hi : σ[i]? = some (some u)) (hj : σ[j]? = some (some v)) (q : ∀ H' a d, Same H H' → H' a = some (exo a C (some d)) → H' d = some (exd d [(g, v), (f, u)]) → Q (.ref a) H') :
    tExv C (spI C [f, g]) (tCons (tVar i) (tCons (tVar j) tNil)) σ H Q :=
  ⟨u, hi, v, hj, mk_err (fl := [f, g]) (ws := [u, v]) rfl (by show 2 ≤ 1000; decide) fun H' a d s _ e1 e2 => q H' a d s e1 e2⟩
theorem rd_kw2 (hi : σ[i]? = some (some v)) (hj : σ[j]? = some (some u)) (q : ∀ H' a d, Same H H' → H' a = some (exo a C (some d)) → H' d = some (exd d [(g, v), (f, u)]) → Q (.ref a) H') :
    tExv C (spI C [f, g]) (fun σ H Q => tCons (tVar i) (tCons (tVar j) tNil) σ H fun zs H1 => zs.length = ([f, g] : List Str).reverse.length ∧ Q zs.reverse H1) σ H Q :=
  ⟨v, hi, u, hj, rfl, mk_err (fl := [f, g]) (ws := [u, v]) rfl (by show 2 ≤ 1000; decide) fun H' a d s _ e1 e2 => q H' a d s e1 e2⟩
theorem rd_kw2c (q : ∀ H' a d, Same H H' → H' a = some (exo a C (some d)) → H' d = some (exd d [(g, v), (f, u)]) → Q (.ref a) H') :
    tExv C (spI C [f, g]) (fun σ H Q => tCons (tC v) (tCons (tC u) tNil) σ H fun zs H1 => zs.length = ([f, g] : List Str).reverse.length ∧ Q zs.reverse H1) σ H Q :=
  ⟨rfl, mk_err (fl := [f, g]) (ws := [u, v]) rfl (by show 2 ≤ 1000; decide) fun H' a d s _ e1 e2 => q H' a d s e1 e2⟩
end
/-! how long a shown list is -/
theorem textFrom_le : ∀ (ts : List Str) (k : Nat) (acc : Str) (m : Nat), (∀ t ∈ ts, t.length ≤ m) → (textFrom k acc ts).length ≤ acc.length + ts.length * (m + 2)
  | [], k, acc, m, _ => by
    show acc.length ≤ acc.length + 0 * (m + 2)
    omega
  | t :: ts, k, acc, m, h => by
    have ih := textFrom_le ts (k + 1) (acc ++ (if k > 0 then ", " else "" : String) ++ t) m fun x hx => h x (List.mem_cons_of_mem _ hx)
    have ht := h t (List.mem_cons_self ..)
    have e : (acc ++ (if k > 0 then ", " else "" : String) ++ t : Str).length ≤ acc.length + 2 + t.length := by
      rw [strLen_append, strLen_append]
      have : (Str.ofString (if k > 0 then ", " else "" : String)).length ≤ 2 := by
        split
        · decide
        · decide
      omega
    show (textFrom (k + 1) (acc ++ (if k > 0 then ", " else "" : String) ++ t) ts).length ≤ acc.length + (ts.length + 1) * (m + 2)
    have : (ts.length + 1) * (m + 2) = ts.length * (m + 2) + (m + 2) := Nat.succ_mul _ _
    omega
theorem small_list {ds : List PyData} (h : ∀ d ∈ ds, Small d) (hz : ds.length ≤ 10) : (PyData.list ds).showable = true ∧ (PyData.list ds).depth ≤ 60 ∧ (PyData.list ds).shown.length ≤ sizeLine := by
  have a1 : ∀ ds : List PyData, (∀ d ∈ ds, Small d) → PyData.showableAll ds = true ∧ PyData.depthAll ds ≤ 10 ∧ (∀ t ∈ PyData.shownAll ds, t.length ≤ 1000) ∧ (PyData.shownAll ds).length = ds.length := by
    intro ds
    induction ds with
    | nil =>
      intro _
      exact ⟨rfl, Nat.zero_le _, (fun t ht => by cases ht), rfl⟩
    | cons d ds ih =>
      intro h
      obtain ⟨i1, i2, i3, i4⟩ := ih fun x hx => h x (List.mem_cons_of_mem _ hx)
      have s := h d (List.mem_cons_self ..)
      refine ⟨?_, ?_, ?_, ?_⟩
      · show (PyData.showable d && PyData.showableAll ds) = true
        rw [s.sh, i1]
        rfl
      · show max (PyData.depth d) (PyData.depthAll ds) ≤ 10
        exact Nat.max_le.mpr ⟨s.dp, i2⟩
      · intro t ht
        rcases List.mem_cons.mp (show t ∈ PyData.shown d :: PyData.shownAll ds from ht) with rfl | ht
        · exact s.ln
        · exact i3 t ht
      · show (PyData.shownAll ds).length + 1 = ds.length + 1
        rw [i4]
  obtain ⟨i1, i2, i3, i4⟩ := a1 ds h
  refine ⟨i1, ?_, ?_⟩
  · show PyData.depthAll ds + 1 ≤ 60
    omega
  · show (listText (PyData.shownAll ds)).length ≤ sizeLine
    unfold listText
    rw [strLen_append]
    have e := textFrom_le (PyData.shownAll ds) 0 "[" 1000 i3
    rw [i4] at e
    have e1 : ("[" : Str).length = 1 := rfl
    have e2 : (Str.ofString "]").length = 1 := rfl
    rw [e1] at e
    rw [e2, sizeLine_eq]
    have : ds.length * (1000 + 2) ≤ 10 * (1000 + 2) := Nat.mul_le_mul_right _ hz
    omega
/-- repr of a new list -/
theorem rp_list {K : PySem.W.Frag} {H : Hp} {p : Addr} {vs : List V} {ds : List PyData} {Q : VK} (np : p ≠ sysModules) (hp : H p = some (.lst vs)) (hd : DRs K H vs ds) (h : ∀ d ∈ ds, Small d) (hz : ds.length ≤ 10) (q : Q (.str (PyData.list ds).shown) H) : rRepr K [.ref p] H Q := by
  obtain ⟨h1, h2, h3⟩ := small_list h hz
  exact ⟨.ref p, .list ds, rfl, .lst np (SqL.of hp) hd, h1, h2, h3, q⟩
section
variable {P : Program} {w : World} {K : PySem.W.Frag} {mg : Str → Option Value} {base : Heap} {D : Nat → Addr} {S : Addr}
abbrev sLaw : Stmt := top 38
abbrev nLaw : List Str := ["_law_script", "_law_pen_here", "_law_turn", "_law_thing", "_law_more", "_law_group", "_law_rows", "_law_error", "_law_sign", "_law_field", "_law_text", "_law_many", "_law_dead", "_law_placed", "_law_groups"]
theorem scLaw : FnScope nLaw ["_law_script"] (defScope sLaw) := ⟨rfl, rfl, rfl, by decide +kernel, rfl, by decide +kernel, by decide +kernel⟩
def spLaw (K : PySem.W.Frag) : Sp := fun vs H Q _ => ∃ (a : Addr) (ns : List Int), vs = [.ref a] ∧ SqL K H a (ns.map V.int) ∧ ns.length ≤ 63 ∧ ∀ H', Q (.bl true) H'
/-- a class without fields -/
structure Plain (K : PySem.W.Frag) (mg : Str → Option Value) (x : Str) (C : Addr) : Prop where
  mgC : mg x = some (.ref C)
  kC : PySem.W.keepIn K (.ref C) = true
  ec : ExcC K C
  ex : PySem.W.excIn K C [.type "ValueError", .type "Exception", .type "BaseException", .type "object"] "ValueError.__new__" = true
structure LawT (P : Program) (w : World) (K : PySem.W.Frag) (mg : Str → Option Value) (base : Heap) (D : Nat → Addr) (S : Addr) (rI rO : List (Addr × Str)) (cText cMany cDead cDeed cHouse cIn cRef cAns : Addr) : Prop where
  bi : Bi mg
  vE : mg "ValueError" = none
  pen : DefOf P w K mg base "_law_pen" 1 ["_law_script"] (spPen K)
  value : DefOf P w K mg base "_law_value" 3 ["_law_pen_here"] (spValue K)
  inputs : DefOf P w K mg base "_law_inputs" 3 ["_law_thing"] (spThings K rI)
  others : DefOf P w K mg base "_law_others" 3 ["_law_thing"] (spThings K rO)
  raised : DefOf P w K mg base "_law_raised" 2 ["_law_error"] (spRaised K D S)
  okI : ∀ r ∈ rI, RowOk K D S r.1 [.str "input", .str r.2] ∧ SeqAt.shaped (.list [.str "input", .str r.2]) = true
  okO : ∀ r ∈ rO, RowOk K D S r.1 [.str "refused", .str r.2] ∧ SeqAt.shaped (.list [.str "refused", .str r.2]) = true
  zI : rI.length ≤ 100
  zO : rO.length ≤ 100
  text : Err P w K mg base "BadText" ["line", "word"] cText
  many : Err P w K mg base "TooMany" ["what", "most"] cMany
  dead : Err P w K mg base "Dead" ["bar"] cDead
  deed : Plain K mg "NoDeed" cDeed
  house : Plain K mg "NoHouse" cHouse
  stay : Plain K mg "StayError" S
  inp : Plain K mg "BadInput" cIn
  ref : Plain K mg "Refused" cRef
  ans : Plain K mg "NoAnswer" cAns
  rText : RowOk K D S cText [.str "input", .str "text"]
  rMany : RowOk K D S cMany [.str "refused", .str "many"]
  rDead : RowOk K D S cDead [.str "answer", .str "dead"]
  rDeed : RowOk K D S cDeed [.str "answer", .str "deed"]
  rHouse : RowOk K D S cHouse [.str "answer", .str "house"]
  rStay : RowOk K D S S []
  rIn : RowOk K D S cIn [.str "input"]
  rRef : RowOk K D S cRef [.str "refused"]
  rAns : RowOk K D S cAns [.str "answer"]
  isV : PySem.W.kitOne K (.ref S) (.type "ValueError") = some true
theorem ok_law {f : Addr} {fd : FuncData} {rI rO : List (Addr × Str)} {cText cMany cDead cDeed cHouse cIn cRef cAns : Addr} (F : Fun K "law" "law" sLaw f fd)
    (T : LawT P w K mg base D S rI rO cText cMany cDead cDeed cHouse cIn cRef cAns) : FnG P w K mg base CX0 5 f fd ["_law_script"] (spLaw K) := by
  obtain ⟨fP, fdP, FP, mP, kP, bP⟩ := T.pen.ex
  obtain ⟨fV, fdV, FV, mV, kV, bV⟩ := T.value.ex
  obtain ⟨fI, fdI, FI, mI, kI, bI⟩ := T.inputs.ex
  obtain ⟨fO, fdO, FO, mO, kO, bO⟩ := T.others.ex
  obtain ⟨fR, fdR, FR, mR, kR, bR⟩ := T.raised.ex
  obtain ⟨fT, fdT, iT, tT, FT, bT, kT⟩ := T.text.ini
  obtain ⟨fM, fdM, iM, tM, FM, bM, kM⟩ := T.many.ini
  obtain ⟨fD, fdD, iD, tD, FD, bD, kD⟩ := T.dead.ini
  refine okG F scLaw (fun vs H Q E h => ?_) (fun cdv A outer s H vs Q E hr gd h => ?_)
  · obtain ⟨a, ns, rfl, _⟩ := h
    rfl
  · obtain ⟨a, ns, rfl, hS, hlen, k⟩ := h
    have hr1 : Room 1 _ := hr.mono (by decide)
    have hr2 : Room 2 _ := hr.mono (by decide)
    have hr3 : Room 3 _ := hr.mono (by decide)
    refine ⟨_, pss_cons (ps_set (i := 1) scLaw.nd rfl (.inl rfl) (pe_call FP hr1 rfl mP kP bP .nil pass0 (pa_cons (pv 0) pa_nil)))
      (pss_cons (ps_for PassesOwn.never rfl (pi_range1 (by rfl) T.bi.range (pa_cons pe_int pa_nil)) (pg_name (i := 2) scLaw.nd rfl (.inl rfl))
        (pss_cons (ps_par (i := 3) (j := 4) rfl scLaw.nd rfl rfl (by decide) rfl rfl (pa_cons (pe_call FV hr3 rfl mV kV bV .nil pass0 (pa_cons (pv 1) pa_nil)) (pa_cons (pe_call FV hr3 rfl mV kV bV .nil pass0 (pa_cons (pv 1) pa_nil)) pa_nil)) (by rfl))
        (pss_cons (ps_for PassesOwn.never rfl (pi_list (pe_lst (pa_cons (pe_tup (pa_cons pe_str (pa_cons (pe_call FI hr3 rfl mI kI bI .nil pass0 (pa_cons (pv 3) pa_nil)) pa_nil)))
              (pa_cons (pe_tup (pa_cons pe_str (pa_cons (pe_call FO hr3 rfl mO kO bO .nil pass0 (pa_cons (pv 3) pa_nil)) pa_nil))) pa_nil))))
            (pg_tup rfl (pgs_cons (pg_name (i := 5) scLaw.nd rfl (.inl rfl)) (pgs_cons (pg_name (i := 6) scLaw.nd rfl (.inl rfl)) pgs_nil)))
          (pss_one (ps_for PassesOwn.never rfl (pi_list (pv 6)) (pg_tup rfl (pgs_cons (pg_name (i := 7) scLaw.nd rfl (.inl rfl)) (pgs_cons (pg_name (i := 8) scLaw.nd rfl (.inl rfl)) (pgs_cons (pg_name (i := 9) scLaw.nd rfl (.inl rfl)) pgs_nil))))
            (pss_one (ps_if (PW.pt (pw_or (pt_cmpR op_ne (pe_callB (call_repr hr gd) (by rfl) T.bi.repr (by decide +kernel) (pa_cons (pv 9) pa_nil)) (pe_callB (call_repr hr gd) (by rfl) T.bi.repr (by decide +kernel) (pa_cons (pv 3) pa_nil)) (nomark _))
                (pw_or1 (pt_cmpR (op_neD hr.units) (pe_call FR hr2 rfl mR kR bR .nil pass0 (pa_cons (pv 7) pa_nil)) (pe_lst (pa_cons (pv 5) (pa_cons (pv 8) pa_nil))) (nomark _)))))
              (pss_one (ps_ret pe_bl)) pss_nil)))))
        (pss_cons (ps_par3 (i := 10) (j := 11) (l := 12) rfl scLaw.nd rfl rfl rfl (by decide) (by decide) (by decide) rfl rfl rfl
            (pa_cons (pe_exvK (ks := (["line", "word"] : List Str).reverse) (g := List.reverse) (gV := List.reverse) T.text.oex iT tT FT hr2 kT (fun _ r => vals_rev r) (by rfl) T.text.mgC (pk_cons (pv 4) (pk_cons (pv 3) pk_nil)))
            (pa_cons (pe_exv T.many.oex iM tM FM hr2 bM (by rfl) T.many.mgC (pa_cons (pv 3) (pa_cons (pv 4) pa_nil)))
            (pa_cons (pe_exvK (ks := (["bar"] : List Str).reverse) (g := List.reverse) (gV := List.reverse) T.dead.oex iD tD FD hr2 kD (fun _ r => vals_rev r) (by rfl) T.dead.mgC (pk_cons (pv 3) pk_nil)) pa_nil))) (by rfl))
        (pss_cons (ps_if (pt_cmpR op_ne (pe_callB (call_repr hr gd) (by rfl) T.bi.repr (by decide +kernel) (pa_cons (pe_lstM (pa_cons (pe_efld (pv 10)) (pa_cons (pe_efld (pv 10)) (pa_cons (pe_efld (pv 11)) (pa_cons (pe_efld (pv 11)) (pa_cons (pe_efld (pv 12)) pa_nil)))))) pa_nil))
              (pe_callB (call_repr hr gd) (by rfl) T.bi.repr (by decide +kernel) (pa_cons (pe_lstM (pa_cons (pv 3) (pa_cons (pv 4) (pa_cons (pv 3) (pa_cons (pv 4) (pa_cons (pv 3) pa_nil)))))) pa_nil)) (nomark _)) (pss_one (ps_ret pe_bl)) pss_nil)
        (pss_cons (ps_set (i := 13) scLaw.nd rfl (.inl rfl) (pe_exv T.text.oex iT tT FT hr2 bT (by rfl) T.text.mgC (pa_cons (pv 3) (pa_cons (pv 4) pa_nil))))
        (pss_cons (ps_if (pt_cmpR op_ne (pe_callB (call_repr hr gd) (by rfl) T.bi.repr (by decide +kernel) (pa_cons (pe_lstM (pa_cons (pe_efld (pv 13)) (pa_cons (pe_efld (pv 13)) pa_nil))) pa_nil))
              (pe_callB (call_repr hr gd) (by rfl) T.bi.repr (by decide +kernel) (pa_cons (pe_lstM (pa_cons (pv 3) (pa_cons (pv 4) pa_nil))) pa_nil)) (nomark _)) (pss_one (ps_ret pe_bl)) pss_nil)
        (pss_cons (ps_if (PW.pt (pw_or (pt_cmpR (op_neD hr.units) (pe_call FR hr2 rfl mR kR bR .nil pass0 (pa_cons (pv 10) pa_nil)) (pe_lst (pa_cons pe_str (pa_cons pe_str pa_nil))) (nomark _))
              (pw_or1 (pt_cmpR (op_neD hr.units) (pe_call FR hr2 rfl mR kR bR .nil pass0 (pa_cons (pv 11) pa_nil)) (pe_lst (pa_cons pe_str (pa_cons pe_str pa_nil))) (nomark _))))) (pss_one (ps_ret pe_bl)) pss_nil)
        (pss_one (ps_if (PW.pt (pw_or (pt_cmpR (op_neD hr.units) (pe_call FR hr2 rfl mR kR bR .nil pass0 (pa_cons (pv 12) pa_nil)) (pe_lst (pa_cons pe_str (pa_cons pe_str pa_nil))) (nomark _))
              (pw_or1 (pt_cmpR (op_neD hr.units) (pe_call FR hr2 rfl mR kR bR .nil pass0 (pa_cons (pe_exvK (ks := (["what", "most"] : List Str).reverse) (g := List.reverse) (gV := List.reverse) T.many.oex iM tM FM hr2 kM (fun _ r => vals_rev r) (by rfl) T.many.mgC (pk_cons pe_int (pk_cons pe_str pk_nil))) pa_nil)) (pe_lst (pa_cons pe_str (pa_cons pe_str pa_nil))) (nomark _))))) (pss_one (ps_ret pe_bl)) pss_nil))))))))))
      (pss_cons (ps_if (PW.pt (pw_or (pt_cmpR (op_neD hr.units) (pe_call FR hr2 rfl mR kR bR .nil pass0 (pa_cons (pe_exc0 PySem.F.excBase_ValueError T.deed.ex T.deed.mgC T.deed.kC (by rfl)) pa_nil)) (pe_lst (pa_cons pe_str (pa_cons pe_str pa_nil))) (nomark _))
            (pw_or1 (pt_cmpR (op_neD hr.units) (pe_call FR hr2 rfl mR kR bR .nil pass0 (pa_cons (pe_exc0 PySem.F.excBase_ValueError T.house.ex T.house.mgC T.house.kC (by rfl)) pa_nil)) (pe_lst (pa_cons pe_str (pa_cons pe_str pa_nil))) (nomark _))))) (pss_one (ps_ret pe_bl)) pss_nil)
      (pss_cons (ps_set (i := 14) scLaw.nd rfl (.inl rfl) (pe_lst (pa_cons (pe_call FR hr2 rfl mR kR bR .nil pass0 (pa_cons (pe_exc0 PySem.F.excBase_ValueError T.stay.ex T.stay.mgC T.stay.kC (by rfl)) pa_nil))
          (pa_cons (pe_call FR hr2 rfl mR kR bR .nil pass0 (pa_cons (pe_exc0 PySem.F.excBase_ValueError T.inp.ex T.inp.mgC T.inp.kC (by rfl)) pa_nil))
          (pa_cons (pe_call FR hr2 rfl mR kR bR .nil pass0 (pa_cons (pe_exc0 PySem.F.excBase_ValueError T.ref.ex T.ref.mgC T.ref.kC (by rfl)) pa_nil))
          (pa_cons (pe_call FR hr2 rfl mR kR bR .nil pass0 (pa_cons (pe_exc0 PySem.F.excBase_ValueError T.ans.ex T.ans.mgC T.ans.kC (by rfl)) pa_nil)) pa_nil))))))
      (pss_one (ps_ret (pe_and (pe_cmpR (op_eqD hr.units) (pv 14) (pe_lst (pa_cons (pe_lst pa_nil) (pa_cons (pe_lst (pa_cons pe_str pa_nil)) (pa_cons (pe_lst (pa_cons pe_str pa_nil)) (pa_cons (pe_lst (pa_cons pe_str pa_nil)) pa_nil))))) (nomark _))
          (pe_one (pe_callB call_isX (by rfl) T.bi.isinstance (by decide +kernel) (pa_cons (pe_exc0 PySem.F.excBase_ValueError T.stay.ex T.stay.mgC T.stay.kC (by rfl)) (pa_cons (pe_bltn (v := .ty "ValueError") (by rfl) T.vE (by decide +kernel) rfl) pa_nil)))))))))), ?_⟩
    refine ⟨_, rfl, a, ns, rfl, hS, hlen, fun H1 p c ms s1 hp0 pen1 => ?_⟩
    refine ⟨6, rfl, by decide, by decide, for_range (n := 6) (fun i σ H' => ∃ (x2 x3 x4 x5 x6 x7 x8 x9 x10 x11 x12 x13 x14 : Option V) (n r : Int), σ = [some (.ref a), some (.ref p), x2, x3, x4, x5, x6, x7, x8, x9, x10, x11, x12, x13, x14] ∧ Pen H' p c ms n r ∧ n ≤ 4 * i)
      ⟨none, none, none, none, none, none, none, none, none, none, none, none, none, 0, 0, rfl, pen1, by decide⟩ ?_ ?_⟩
    · rintro i σ H2 hi ⟨x2, x3, x4, x5, x6, x7, x8, x9, x10, x11, x12, x13, x14, n, r, rfl, pen2, hn⟩
      refine ⟨_, rfl, p, c, ms, n, r, rfl, pen2, by omega, fun H3 n3 r3 v b3 pen3 g3 th3 => ⟨_, rfl, p, c, ms, n3, r3, rfl, pen3, by omega, fun H4 n4 r4 v' b4 pen4 g4 th4 => ⟨_, _, rfl, ?_⟩⟩⟩
      have thv := th3.keep b4
      obtain ⟨d, dv, sd⟩ := thv
      obtain ⟨d', dv', sd'⟩ := th4
      have dv := dv.keep hide_sub
      have dv' := dv'.keep hide_sub
      refine ⟨_, rfl, v, rfl, fun H5 l5 s5 r5 => ⟨by show 2 ≤ sizeLine; decide, fun t1 ht1 => ⟨_, rfl, v, rfl, fun H6 l6 s6 r6 => ⟨by show 2 ≤ sizeLine; decide, fun t2 ht2 => ⟨by show 2 ≤ sizeLine; decide, fun L hL => ?_⟩⟩⟩⟩⟩
      -- the heap at the loop's start
      have q1 : Same H5 (upd H5 t1 (.tup [.str "input", .ref l5])) := same_new (Same.refl _) ht1
      have q2 : Same H6 (upd (upd H6 t2 (.tup [.str "refused", .ref l6])) L (.lst [.ref t1, .ref t2])) := same_new (same_new (Same.refl _) ht2) hL
      have e1 : upd (upd H6 t2 (.tup [.str "refused", .ref l6])) L (.lst [.ref t1, .ref t2]) t1 = some (.tup [.str "input", .ref l5]) := q2 _ _ (s6 _ _ upd_same)
      have e2 : upd (upd H6 t2 (.tup [.str "refused", .ref l6])) L (.lst [.ref t1, .ref t2]) t2 = some (.tup [.str "refused", .ref l6]) := by
        obtain ⟨z, _⟩ := fresh_upd hL
        rw [upd_ne z.symm]
        exact upd_same
      have e3 : upd (upd H6 t2 (.tup [.str "refused", .ref l6])) L (.lst [.ref t1, .ref t2]) L = some (.lst [.ref t1, .ref t2]) := upd_same
      have s46 : Same H4 (upd (upd H6 t2 (.tup [.str "refused", .ref l6])) L (.lst [.ref t1, .ref t2])) := s5.trans (q1.trans (s6.trans q2))
      have r5 := r5.keep F3.mono (q1.trans (s6.trans q2))
      have r6 := r6.keep F3.mono q2
      generalize upd (upd H6 t2 (.tup [.str "refused", .ref l6])) L (.lst [.ref t1, .ref t2]) = H7 at e1 e2 e3 s46 r5 r6 ⊢
      refine ⟨L, rfl, ⟨_, SqL.of e3⟩, for_list (K := K) (a := L) (xs := [.ref t1, .ref t2]) (fun j σ H' => ∃ (y5 y6 y7 y8 y9 : Option V), σ = [some (.ref a), some (.ref p), some (.int (0 + i)), some v, some v', y5, y6, y7, y8, y9, x10, x11, x12, x13, x14] ∧ Same H7 H')
        ⟨_, _, _, _, _, rfl, Same.refl _⟩ (fun j σ H' _ ⟨_, _, _, _, _, _, sm⟩ => SqL.of (sm _ _ e3)) ?_ ?_⟩
      · rintro j x σ H' hx ⟨y5, y6, y7, y8, y9, rfl, sm⟩
        have pick : ∃ (t l : Addr) (g : Str) (rs : List (Addr × Str)), x = .ref t ∧ H7 t = some (.tup [.str g, .ref l]) ∧ LRows (F3 K v) H7 l rs ∧ (∀ r ∈ rs, RowOk K D S r.1 [.str g, .str r.2] ∧ SeqAt.shaped (.list [.str g, .str r.2]) = true) := by
          match j, hx with
          | 0, hx =>
            cases hx
            exact ⟨t1, l5, "input", rI, rfl, e1, r5, T.okI⟩
          | 1, hx =>
            cases hx
            exact ⟨t2, l6, "refused", rO, rfl, e2, r6, T.okO⟩
        obtain ⟨t, l, g, rs, rfl, et, ⟨ts, el, pr⟩, ok⟩ := pick
        refine ⟨t, _, rfl, .inl (.inl (sm _ _ et)), rfl, _, _, rfl, _, _, rfl, rfl, ?_⟩
        refine ⟨_, rfl, l, rfl, ⟨_, SqL.of (sm _ _ el)⟩, for_list (K := K) (a := l) (xs := ts.map V.ref) (fun m σ H' => ∃ (y7 y8 y9 : Option V), σ = [some (.ref a), some (.ref p), some (.int (0 + i)), some v, some v', some (.str g), some (.ref l), y7, y8, y9, x10, x11, x12, x13, x14] ∧ Same H7 H')
          ⟨_, _, _, rfl, sm⟩ (fun j σ H' _ ⟨_, _, _, _, sm⟩ => SqL.of (sm _ _ el)) ?_ ?_⟩
        · rintro m x σ H8 hx ⟨y7, y8, y9, rfl, sm8⟩
          obtain ⟨u, hu, rfl⟩ := ref_at hx
          obtain ⟨q, hq, b, eb, er⟩ := Paired.at_ pr hu
          obtain ⟨ro, sh⟩ := ok q (List.mem_of_getElem? hq)
          refine ⟨u, _, rfl, .inl (.inl (sm8 _ _ eb)), rfl, _, _, rfl, _, _, rfl, _, _, rfl, rfl, ?_⟩
          have dv8 := dv.keep (s46.trans sm8)
          refine rd_ifs (rd_or (rd_test (rd_op (rd_repr rfl dv8 sd (rd_repr rfl dv8 sd (ne_same (iteF ?_)))))))
          refine rd_test (rd_op (rd_rs (rd_var rfl (sp_rs (er.keep sm8) ro fun H9 l9 s9 h9 => ?_))))
          refine rd_lst (rd_cons (rd_var rfl (rd_cons (rd_var rfl (rd_nil (ne2_end sh h9 fun H10 s10 => iteF ?_))))))
          exact ⟨_, _, _, rfl, sm8.trans (s9.trans s10)⟩
        · rintro σ H8 ⟨y7, y8, y9, rfl, sm8⟩
          exact ⟨_, _, _, _, _, rfl, sm8⟩
      · rintro σ H8 ⟨y5, y6, y7, y8, y9, rfl, sm⟩
        have s48 := s46.trans sm
        have dvA := dv.keep s48
        have dvB := dv'.keep s48
        -- text, many, dead = ..
        dsimp only
        refine rd_sp3 ?_
        refine rd_cons (rd_kw2 (C := cText) rfl rfl fun H9 aT xT s9 eT fT => ?_)
        refine rd_cons (rd_pos2 (C := cMany) rfl rfl fun H10 aM xM s10 eM fM => ?_)
        refine rd_cons (rd_kw (C := cDead) (f := "bar") rfl fun H11 aD s11 D1 => rd_nil ⟨_, _, _, rfl, ?_⟩)
        have T1 : ErrF H11 aT cText "line" v := ⟨xT, _, s11 _ _ (s10 _ _ eT), s11 _ _ (s10 _ _ fT), rfl⟩
        have T2 : ErrF H11 aT cText "word" v' := ⟨xT, _, s11 _ _ (s10 _ _ eT), s11 _ _ (s10 _ _ fT), rfl⟩
        have M1 : ErrF H11 aM cMany "what" v := ⟨xM, _, s11 _ _ eM, s11 _ _ fM, rfl⟩
        have M2 : ErrF H11 aM cMany "most" v' := ⟨xM, _, s11 _ _ eM, s11 _ _ fM, rfl⟩
        have s411 := s48.trans (s9.trans (s10.trans s11))
        clear eT fT eM fM
        have nT1 := T.text.nf "line" (by decide +kernel)
        have nT2 := T.text.nf "word" (by decide +kernel)
        have nM1 := T.many.nf "what" (by decide +kernel)
        have nM2 := T.many.nf "most" (by decide +kernel)
        have nD1 := T.dead.nf "bar" (by decide +kernel)
        have sds : ∀ x ∈ [d, d', d, d', d], Small x := by
          intro x hx
          simp only [List.mem_cons, List.mem_nil_iff, or_false] at hx
          rcases hx with rfl | rfl | rfl | rfl | rfl <;> assumption
        have sds2 : ∀ x ∈ [d, d'], Small x := by
          intro x hx
          simp only [List.mem_cons, List.mem_nil_iff, or_false] at hx
          rcases hx with rfl | rfl <;> assumption
        -- if repr([..]) != repr([..])
        refine rd_sif0 (rd_test (rd_op (rd_cb (rd_cons (rd_lstM (rd_cons (rd_efld rfl T1 T.text.xf nT1 (rd_cons (rd_efld rfl T2 T.text.xf nT2 (rd_cons (rd_efld rfl M1 T.many.xf nM1 (rd_cons (rd_efld rfl M2 T.many.xf nM2
          (rd_cons (rd_efld rfl D1 T.dead.xf nD1 (rd_nil ⟨by show 5 ≤ sizeLine; decide, fun g1 hg1 ng1 => rd_nil ?_⟩))))))))))))))))
        have s12 := same_new (o := .lst [v, v', v, v', v]) (Same.refl H11) hg1
        have dvC := dv.keep (s411.trans s12)
        have dvD := dv'.keep (s411.trans s12)
        refine rp_list ng1 upd_same (.cons dvC (.cons dvD (.cons dvC (.cons dvD (.cons dvC .nil))))) sds (Nat.le_of_ble_eq_true rfl) ?_
        refine rd_cb (rd_cons (rd_lstM (rd_cons (rd_var rfl (rd_cons (rd_var rfl (rd_cons (rd_var rfl (rd_cons (rd_var rfl (rd_cons (rd_var rfl (rd_nil ⟨by show 5 ≤ sizeLine; decide, fun g2 hg2 ng2 => rd_nil ?_⟩)))))))))))))
        have s13 := same_new (o := .lst [v, v', v, v', v]) s12 hg2
        have dvE := dv.keep (s411.trans s13)
        have dvF := dv'.keep (s411.trans s13)
        refine rp_list ng2 upd_same (.cons dvE (.cons dvF (.cons dvE (.cons dvF (.cons dvE .nil))))) sds (Nat.le_of_ble_eq_true rfl) (ne_same (iteF ?_))
        generalize upd (upd H11 g1 (.lst [v, v', v, v', v])) g2 (.lst [v, v', v, v', v]) = H13 at s13 dvE dvF ⊢
        -- placed = BadText(thing, more)
        refine rd_sa (rd_pos2 (C := cText) rfl rfl fun H14 aP xP s14 eP fP => ?_)
        have P1 : ErrF H14 aP cText "line" v := ⟨xP, _, eP, fP, rfl⟩
        have P2 : ErrF H14 aP cText "word" v' := ⟨xP, _, eP, fP, rfl⟩
        have s1114 := s13.trans s14
        refine rd_sif0 (rd_test (rd_op (rd_cb (rd_cons (rd_lstM (rd_cons (rd_efld rfl P1 T.text.xf nT1 (rd_cons (rd_efld rfl P2 T.text.xf nT2 (rd_nil ⟨by show 2 ≤ sizeLine; decide, fun g3 hg3 ng3 => rd_nil ?_⟩))))))))))
        have s15 := same_new (o := .lst [v, v']) (Same.refl H14) hg3
        have dvG := dv.keep (s411.trans (s1114.trans s15))
        have dvH := dv'.keep (s411.trans (s1114.trans s15))
        refine rp_list ng3 upd_same (.cons dvG (.cons dvH .nil)) sds2 (Nat.le_of_ble_eq_true rfl) ?_
        refine rd_cb (rd_cons (rd_lstM (rd_cons (rd_var rfl (rd_cons (rd_var rfl (rd_nil ⟨by show 2 ≤ sizeLine; decide, fun g4 hg4 ng4 => rd_nil ?_⟩)))))))
        have s16 := same_new (o := .lst [v, v']) s15 hg4
        have dvI := dv.keep (s411.trans (s1114.trans s16))
        have dvJ := dv'.keep (s411.trans (s1114.trans s16))
        refine rp_list ng4 upd_same (.cons dvI (.cons dvJ .nil)) sds2 (Nat.le_of_ble_eq_true rfl) (ne_same (iteF ?_))
        generalize upd (upd H14 g3 (.lst [v, v'])) g4 (.lst [v, v']) = H16 at s16 dvI dvJ ⊢
        have s1116 := s1114.trans s16
        have aT1 := (T1.keep s1116).at_ T.text.ec
        have aM1 := (M1.keep s1116).at_ T.many.ec
        have aD1 := (D1.keep s1116).at_ T.dead.ec
        have shT : SeqAt.shaped (.list [.str "input", .str "text"]) = true := by decide +kernel
        have shM : SeqAt.shaped (.list [.str "refused", .str "many"]) = true := by decide +kernel
        have shD : SeqAt.shaped (.list [.str "answer", .str "dead"]) = true := by decide +kernel
        refine rd_sif0 (rd_or (rd_test (rd_op (rd_rs (rd_var rfl (sp_rs aT1 T.rText fun H17 l17 s17 h17 => ?_))))))
        refine rd_lst (rd_cons (rd_c (rd_cons (rd_c (rd_nil (ne2_end shT h17 fun H18 s18 => iteF ?_))))))
        refine rd_test (rd_op (rd_rs (rd_var rfl (sp_rs (aM1.keep (s17.trans s18)) T.rMany fun H19 l19 s19 h19 => ?_))))
        refine rd_lst (rd_cons (rd_c (rd_cons (rd_c (rd_nil (ne2_end shM h19 fun H20 s20 => iteF ?_))))))
        refine rd_if0 (rd_or (rd_test (rd_op (rd_rs (rd_var rfl (sp_rs (aD1.keep (s17.trans (s18.trans (s19.trans s20)))) T.rDead fun H21 l21 s21 h21 => ?_))))))
        refine rd_lst (rd_cons (rd_c (rd_cons (rd_c (rd_nil (ne2_end shD h21 fun H22 s22 => iteF ?_))))))
        refine rd_test (rd_op (rd_rs (rd_kw2c (C := cMany) (f := "what") (g := "most") fun H23 aX xX s23 eX fX => ?_)))
        have aX1 : ErrAt K H23 aX cMany := ErrF.at_ (f := "what") (v := .str "a") ⟨xX, _, eX, fX, rfl⟩ T.many.ec
        refine sp_rs aX1 T.rMany fun H24 l24 s24 h24 => ?_
        refine rd_lst (rd_cons (rd_c (rd_cons (rd_c (rd_nil (ne2_end shM h24 fun H25 s25 => iteF ?_))))))
        have all : But p H4 H25 := fun b o _ e => (s411.trans (s1116.trans (s17.trans (s18.trans (s19.trans (s20.trans (s21.trans (s22.trans (s23.trans (s24.trans s25)))))))))) b o e
        have pen25 : Pen H25 p c ms n4 r4 := by
          have sm : Same H4 H25 := s411.trans (s1116.trans (s17.trans (s18.trans (s19.trans (s20.trans (s21.trans (s22.trans (s23.trans (s24.trans s25)))))))))
          exact ⟨sm _ _ pen4.pen, sm _ _ pen4.cells, pen4.lo, pen4.few⟩
        exact ⟨_, _, _, _, _, _, _, _, _, _, _, _, _, n4, r4, rfl, pen25, by omega⟩
    · rintro σ H2 ⟨x2, x3, x4, x5, x6, x7, x8, x9, x10, x11, x12, x13, x14, n, r, rfl, pen2, hn⟩
      have shA : SeqAt.shaped (.list [.str "answer", .str "deed"]) = true := by decide +kernel
      have shB : SeqAt.shaped (.list [.str "answer", .str "house"]) = true := by decide +kernel
      dsimp only
      refine rd_sif0 (rd_or (rd_test (rd_op (rd_rs fun e1 h1 => sp_rs (new_at h1 T.deed.ec) T.rDeed fun H3 l3 s3 h3 => ?_))))
      refine rd_lst (rd_cons (rd_c (rd_cons (rd_c (rd_nil (ne2_end shA h3 fun H4 s4 => iteF ?_))))))
      refine rd_test (rd_op (rd_rs fun e2 h2 => sp_rs (new_at h2 T.house.ec) T.rHouse fun H5 l5 s5 h5 => ?_))
      refine rd_lst (rd_cons (rd_c (rd_cons (rd_c (rd_nil (ne2_end shB h5 fun H6 s6 => iteF ?_))))))
      refine rd_sa (rd_lst (rd_cons (rd_rs fun e3 h3 => sp_rs (new_at h3 T.stay.ec) T.rStay fun H7 l7 s7 q7 => rd_cons (rd_rs fun e4 h4 => sp_rs (new_at h4 T.inp.ec) T.rIn fun H8 l8 s8 q8 =>
        rd_cons (rd_rs fun e5 h5 => sp_rs (new_at h5 T.ref.ec) T.rRef fun H9 l9 s9 q9 => rd_cons (rd_rs fun e6 h6 => sp_rs (new_at h6 T.ans.ec) T.rAns fun H10 l10 s10 q10 => rd_nil ⟨by show 4 ≤ sizeLine; decide, fun G hG => ?_⟩)))))) 
      have k8 : Same H7 H8 := (same_new (Same.refl _) h4).trans s8
      have k9 : Same H8 H9 := (same_new (Same.refl _) h5).trans s9
      have k10 : Same H9 H10 := (same_new (Same.refl _) h6).trans s10
      have z10 := same_new (o := .lst [.ref l7, .ref l8, .ref l9, .ref l10]) (Same.refl H10) hG
      have g7 := z10 _ _ (k10 _ _ (k9 _ _ (k8 _ _ q7)))
      have g8 := z10 _ _ (k10 _ _ (k9 _ _ q8))
      have g9 := z10 _ _ (k10 _ _ q9)
      have g10 := z10 _ _ q10
      have gG : upd H10 G (.lst [.ref l7, .ref l8, .ref l9, .ref l10]) G = some (.lst [.ref l7, .ref l8, .ref l9, .ref l10]) := upd_same
      generalize upd H10 G (.lst [.ref l7, .ref l8, .ref l9, .ref l10]) = HG at g7 g8 g9 g10 gG ⊢
      have she : SeqAt.shaped (.list [.list [], .list [.str "input"], .list [.str "refused"], .list [.str "answer"]]) = true := by decide +kernel
      refine rd_ret (rd_andV (rd_op (rd_var rfl (rd_lst (rd_cons (rd_lst (rd_nil ⟨Nat.zero_le _, fun a0 h0 => rd_cons (rd_lst (rd_cons (rd_c (rd_nil ⟨by show 1 ≤ sizeLine; decide, fun a1 h1 => rd_cons (rd_lst (rd_cons (rd_c (rd_nil ⟨by show 1 ≤ sizeLine; decide, fun a2 h2 =>
        rd_cons (rd_lst (rd_cons (rd_c (rd_nil ⟨by show 1 ≤ sizeLine; decide, fun a3 h3 => rd_nil ⟨by show 4 ≤ sizeLine; decide, fun L hL => ?_⟩⟩)))) ⟩)))) ⟩)))) ⟩)))))))
      have z0 := same_new (o := .lst []) (Same.refl HG) h0
      have z1 := same_new (o := .lst [.str "input"]) (Same.refl _) h1
      have z2 := same_new (o := .lst [.str "refused"]) (Same.refl _) h2
      have z3 := same_new (o := .lst [.str "answer"]) (Same.refl _) h3
      have zL := same_new (o := .lst [.ref a0, .ref a1, .ref a2, .ref a3]) (Same.refl _) hL
      have f0 := zL _ _ (z3 _ _ (z2 _ _ (z1 _ _ (upd_same (H := HG) (a := a0) (o := .lst [])))))
      have f1 := zL _ _ (z3 _ _ (z2 _ _ (upd_same (a := a1) (o := .lst [.str "input"]))))
      have f2 := zL _ _ (z3 _ _ (upd_same (a := a2) (o := .lst [.str "refused"])))
      have f3 := zL _ _ (upd_same (a := a3) (o := .lst [.str "answer"]))
      have zz := z0.trans (z1.trans (z2.trans (z3.trans zL)))
      refine ⟨.list [.list [], .list [.str "input"], .list [.str "refused"], .list [.str "answer"]], .list [.list [], .list [.str "input"], .list [.str "refused"], .list [.str "answer"]],
        .lst (SqL.of (zz _ _ gG)) (.cons (.lst (SqL.of (zz _ _ g7)) .nil) (.cons (.lst (SqL.of (zz _ _ g8)) (.cons (.str _) .nil)) (.cons (.lst (SqL.of (zz _ _ g9)) (.cons (.str _) .nil)) (.cons (.lst (SqL.of (zz _ _ g10)) (.cons (.str _) .nil)) .nil)))),
        .lst (SqL.of upd_same) (.cons (.lst (SqL.of f0) .nil) (.cons (.lst (SqL.of f1) (.cons (.str _) .nil)) (.cons (.lst (SqL.of f2) (.cons (.str _) .nil)) (.cons (.lst (SqL.of f3) (.cons (.str _) .nil)) .nil)))), she, she, true, ?_, iteT ?_⟩
      · rw [SeqAt.eqv_refl _ (SeqAt.canLay_of_shaped she)]
      · refine fun e7 h7 => ⟨e7, S, none, [], .ty "ValueError", .type "ValueError", true, rfl, .plain rfl upd_same, .no, T.stay.ec, .ty _, T.isV, ?_⟩
        exact k _
end
end NB
namespace NB
open PySem L2
def excB (K : PySem.W.Frag) (C : Addr) : Bool :=
  decide (PySem.W.findIn K (.ref C) "__getattribute__" = some (some (.builtin "BaseException.__getattribute__"))) && (decide (PySem.W.findIn K (.ref C) "__getattr__" = some none) &&
  (decide (PySem.W.subIn K (.ref C) (.type "BaseException") = some true) && (PySem.W.hasDictIn K C && (decide (PySem.W.findIn K (.ref C) "__class__" = some (some (.builtin "object.__class__"))) &&
  (decide (PySem.W.specialIn K (.builtin "object.__class__") "__get__" = some (some (.builtin "getset_descriptor.__get__"))) && (decide (PySem.W.takesIn K (.builtin "object.__class__") = some true) && decide (PySem.W.mroIn K C (.type "object") = some true)))))))
theorem excB_ok {K : PySem.W.Frag} {C : Addr} (h : excB K C = true) : ExcC K C := by
  unfold excB at h
  simp only [Bool.and_eq_true, decide_eq_true_eq] at h
  obtain ⟨h1, h2, h3, h4, h5, h6, h7, h8⟩ := h
  exact ⟨h1, h2, h3, h4, h5, h6, h7, h8⟩
def errB (K : PySem.W.Frag) (C : Addr) (fl : List Str) : Bool :=
  decide (PySem.W.findIn K (.ref C) "__setattr__" = some (some (.builtin "object.__setattr__"))) && (decide (PySem.W.subIn K (.ref C) (.type "BaseException") = some true) && (decide (PySem.W.typeIn K (.ref C) = some (.type "type")) &&
  (PySem.W.keepIn K (.ref C) && (xfB K C && (excB K C && fl.all fun f => decide (PySem.W.findIn K (.ref C) f = some none))))))
/-- what the top leaves of an error's class -/
structure ErrK (K : PySem.W.Frag) (x qual : Str) (st : Stmt) (fl : List Str) (C f : Addr) (fd : FuncData) : Prop where
  ns : PySem.W.nsIn K mainGlobals x = some (some (.ref C))
  oex : OexC K C
  xf : XfC K C
  ec : ExcC K C
  nf : ∀ f ∈ fl, PySem.W.findIn K (.ref C) f = some none
  iC : PySem.W.findIn K (.ref C) "__init__" = some (some (.ref f))
  tI : PySem.W.typeIn K (.ref f) = some (.type "function")
  F : Fun K "__init__" qual st f fd
theorem err_mk {K : PySem.W.Frag} {x qual : Str} {st : Stmt} {fl : List Str} {C f N : Addr} {nm q : Str} {bs bm : List Value} {sn : List Str} {sub : List Value} {ab : Bool} {col : Option Bool} {dd : Option Addr} {k0 k1 k2 k3 k5 : Option Value}
    {oc kV doc pm cdv ct : Value} {od an : Option Addr} {osl : Array (Option Value)}
    (a : PySem.W.nsIn K mainGlobals x = some (some (.ref C))) (l : K.lookup C = some (excClassObj nm q C N bs bm true sn sub ab col dd k0 k1 k2 k3 k5 "ValueError.__new__")) (r : PySem.HandSPX.refsVE bm = true)
    (i : PySem.W.findIn K (.ref C) "__init__" = some (some (.ref f))) (t : PySem.W.typeIn K (.ref f) = some (.type "function"))
    (l2 : K.lookup f = some ⟨oc, od, .func (PySem.W.fnOf "__init__" qual (defArgs st) (defBody st) (defScope st) .none kV doc pm an cdv ct), osl⟩) (c2 : PySem.W.codeIn K cdv qual = true) (k2' : PySem.W.keepIn K (.ref f) = true)
    (b : errB K C fl = true) : ErrK K x qual st fl C f (PySem.W.fnOf "__init__" qual (defArgs st) (defBody st) (defScope st) .none kV doc pm an cdv ct) := by
  unfold errB at b
  simp only [Bool.and_eq_true, decide_eq_true_eq, List.all_eq_true] at b
  obtain ⟨b1, b2, b3, b4, b5, b6, b7⟩ := b
  exact ⟨a, ⟨⟨nm, q, N, bs, bm, sn, sub, ab, col, dd, k0, k1, k2, k3, k5, l, r⟩, b1, b2, b3, b4⟩, xfB_ok b5, excB_ok b6, b7, i, t, fun_mk l2 c2 k2'⟩
theorem ErrK.err {P : Program} {w : World} {K : PySem.W.Frag} {mg : Str → Option Value} {base h : Heap} {x qual : Str} {st : Stmt} {fl : List Str} {C f : Addr} {fd : FuncData} (E : ErrK K x qual st fl C f fd) (X : K.In h) (G : h.Ns mainGlobals mg)
    (ok : FnOk P w K mg base CX0 1 f fd ("self" :: fl) (spI C fl) ∧ Binds K fd ("self" :: fl) [] ∧ KwB fd fl) : Err P w K mg base x fl C :=
  ⟨PySem.W.mg_of X G E.ns, E.oex, E.xf, E.ec, E.nf, f, fd, E.iC, E.tI, ok.1, ok.2.1, ok.2.2⟩
structure PlainK (K : PySem.W.Frag) (x : Str) (C : Addr) : Prop where
  ns : PySem.W.nsIn K mainGlobals x = some (some (.ref C))
  kC : PySem.W.keepIn K (.ref C) = true
  ec : ExcC K C
  ex : PySem.W.excIn K C [.type "ValueError", .type "Exception", .type "BaseException", .type "object"] "ValueError.__new__" = true
theorem plain_mk {K : PySem.W.Frag} {x : Str} {C : Addr} (a : PySem.W.nsIn K mainGlobals x = some (some (.ref C))) (k : PySem.W.keepIn K (.ref C) = true) (e : PySem.W.excIn K C [.type "ValueError", .type "Exception", .type "BaseException", .type "object"] "ValueError.__new__" = true) (b : excB K C = true) : PlainK K x C := ⟨a, k, excB_ok b, e⟩
theorem PlainK.plain {K : PySem.W.Frag} {mg : Str → Option Value} {h : Heap} {x : Str} {C : Addr} (E : PlainK K x C) (X : K.In h) (G : h.Ns mainGlobals mg) : Plain K mg x C := ⟨PySem.W.mg_of X G E.ns, E.kC, E.ec, E.ex⟩
/-- a def that stands at the top -/
structure DefK (K : PySem.W.Frag) (x : Str) (st : Stmt) (f : Addr) (fd : FuncData) : Prop where
  ns : PySem.W.nsIn K mainGlobals x = some (some (.ref f))
  F : Fun K x x st f fd
theorem def_mk {K : PySem.W.Frag} {x : Str} {st : Stmt} {f : Addr} {oc kV doc pm cdv ct : Value} {od an : Option Addr} {osl : Array (Option Value)} (a : PySem.W.nsIn K mainGlobals x = some (some (.ref f)))
    (l : K.lookup f = some ⟨oc, od, .func (PySem.W.fnOf x x (defArgs st) (defBody st) (defScope st) .none kV doc pm an cdv ct), osl⟩) (c : PySem.W.codeIn K cdv x = true) (k : PySem.W.keepIn K (.ref f) = true) :
    DefK K x st f (PySem.W.fnOf x x (defArgs st) (defBody st) (defScope st) .none kV doc pm an cdv ct) := ⟨a, fun_mk l c k⟩
theorem DefK.of {P : Program} {w : World} {K : PySem.W.Frag} {mg : Str → Option Value} {base h : Heap} {x : Str} {st : Stmt} {f : Addr} {fd : FuncData} {k : Nat} {ps : List Str} {sp : Sp} (E : DefK K x st f fd) (X : K.In h) (G : h.Ns mainGlobals mg)
    (ok : FnOk P w K mg base CX0 k f fd ps sp) (b : Binds K fd ps []) : DefOf P w K mg base x k ps sp := ⟨f, fd, ok, PySem.W.mg_of X G E.ns, E.F.kp, b⟩
def bitsOf (l : List Nat) (i : Nat) : Bool := l.contains i
def sigB (K : PySem.W.Frag) (Ds : List Addr) (S C : Addr) (l : List Nat) : Bool :=
  ((List.range 27).all fun i => decide (PySem.W.kitOne K (.ref C) (.ref (Ds.getD i 0)) = some (bitsOf l i))) && decide (PySem.W.kitOne K (.ref C) (.ref S) = some true)
theorem row_of {K : PySem.W.Frag} {Ds : List Addr} {S C : Addr} {l : List Nat} {vs : List V} (h : sigB K Ds S C l = true) (e : told (sigRows (bitsOf l)) = vs) : RowOk K (fun i => Ds.getD i 0) S C vs := by
  unfold sigB at h
  simp only [Bool.and_eq_true, decide_eq_true_eq, List.all_eq_true] at h
  exact ⟨bitsOf l, fun i hi => h.1 i (List.mem_range.mpr hi), e, h.2⟩
def sigAll (K : PySem.W.Frag) (CBadLengths CBadDays CBadStay CBadRule CBadBook CBadStretch CBadCalendar CBadDoor CBadName CBadCount CBadWish CBadRow CBadText CBadLine CTaken CNoGuest CNotLet COutside CFull CLoose CTooMany CDead CNoDeed CNoHouse CStayError CBadInput CRefused CNoAnswer : Addr) : Bool := let Ds := [CBadInput, CRefused, CNoAnswer, CBadLengths, CBadDays, CBadStay, CBadRule, CBadBook, CBadStretch, CBadCalendar, CBadDoor, CBadName, CBadCount, CBadWish, CBadRow, CBadText, CBadLine, CTaken, CNoGuest, CNotLet, COutside, CFull, CLoose, CTooMany, CDead, CNoDeed, CNoHouse]
  (sigB K Ds CStayError CBadLengths [0, 3]) &&
  (sigB K Ds CStayError CBadDays [0, 4]) &&
  (sigB K Ds CStayError CBadStay [0, 5]) &&
  (sigB K Ds CStayError CBadRule [0, 6]) &&
  (sigB K Ds CStayError CBadBook [0, 7]) &&
  (sigB K Ds CStayError CBadStretch [0, 8]) &&
  (sigB K Ds CStayError CBadCalendar [0, 9]) &&
  (sigB K Ds CStayError CBadDoor [0, 10]) &&
  (sigB K Ds CStayError CBadName [0, 11]) &&
  (sigB K Ds CStayError CBadCount [0, 12]) &&
  (sigB K Ds CStayError CBadWish [0, 13]) &&
  (sigB K Ds CStayError CBadRow [0, 14]) &&
  (sigB K Ds CStayError CBadText [0, 15]) &&
  (sigB K Ds CStayError CBadLine [0, 16]) &&
  (sigB K Ds CStayError CTaken [1, 17]) &&
  (sigB K Ds CStayError CNoGuest [1, 18]) &&
  (sigB K Ds CStayError CNotLet [1, 19]) &&
  (sigB K Ds CStayError COutside [1, 20]) &&
  (sigB K Ds CStayError CFull [1, 21]) &&
  (sigB K Ds CStayError CLoose [1, 22]) &&
  (sigB K Ds CStayError CTooMany [1, 23]) &&
  (sigB K Ds CStayError CDead [2, 24]) &&
  (sigB K Ds CStayError CNoDeed [2, 25]) &&
  (sigB K Ds CStayError CNoHouse [2, 26]) &&
  (sigB K Ds CStayError CStayError []) &&
  (sigB K Ds CStayError CBadInput [0]) &&
  (sigB K Ds CStayError CRefused [1]) &&
  (sigB K Ds CStayError CNoAnswer [2])
theorem all_mk {l : PySem.W.OpenLaw} {w : World} {K : PySem.W.Frag} {h : Heap} {mg : Str → Option Value} {fa CBadLengths fBadLengths CBadDays fBadDays CBadStay fBadStay CBadRule fBadRule CBadBook fBadBook CBadStretch fBadStretch CBadCalendar fBadCalendar CBadDoor fBadDoor CBadName fBadName CBadCount fBadCount CBadWish fBadWish CBadRow fBadRow CBadText fBadText CBadLine fBadLine CTaken fTaken CNoGuest fNoGuest CNotLet fNotLet COutside fOutside CFull fFull CLoose fLoose CTooMany fTooMany CDead fDead CNoDeed CNoHouse CStayError CBadInput CRefused CNoAnswer f_law_pen f_law_draw f_law_pick f_law_value f_law_raised f_law_signs f_law_inputs f_law_others flaw : Addr} {fdBadLengths fdBadDays fdBadStay fdBadRule fdBadBook fdBadStretch fdBadCalendar fdBadDoor fdBadName fdBadCount fdBadWish fdBadRow fdBadText fdBadLine fdTaken fdNoGuest fdNotLet fdOutside fdFull fdLoose fdTooMany fdDead fd_law_pen fd_law_draw fd_law_pick fd_law_value fd_law_raised fd_law_signs fd_law_inputs fd_law_others fdlaw : FuncData} (X : K.In h) (G : h.Ns mainGlobals mg) (hfa : mg "law" = some (.ref fa))
    (EBadLengths : ErrK K "BadLengths" "BadLengths.__init__" sIBadLengths ["part"] CBadLengths fBadLengths fdBadLengths)
    (EBadDays : ErrK K "BadDays" "BadDays.__init__" sIBadDays ["part"] CBadDays fBadDays fdBadDays)
    (EBadStay : ErrK K "BadStay" "BadStay.__init__" sIBadStay ["part"] CBadStay fBadStay fdBadStay)
    (EBadRule : ErrK K "BadRule" "BadRule.__init__" sIBadRule ["part"] CBadRule fBadRule fdBadRule)
    (EBadBook : ErrK K "BadBook" "BadBook.__init__" sIBadBook ["part"] CBadBook fBadBook fdBadBook)
    (EBadStretch : ErrK K "BadStretch" "BadStretch.__init__" sIBadStretch ["part"] CBadStretch fBadStretch fdBadStretch)
    (EBadCalendar : ErrK K "BadCalendar" "BadCalendar.__init__" sIBadCalendar ["part"] CBadCalendar fBadCalendar fdBadCalendar)
    (EBadDoor : ErrK K "BadDoor" "BadDoor.__init__" sIBadDoor ["part"] CBadDoor fBadDoor fdBadDoor)
    (EBadName : ErrK K "BadName" "BadName.__init__" sIBadName ["value"] CBadName fBadName fdBadName)
    (EBadCount : ErrK K "BadCount" "BadCount.__init__" sIBadCount ["value"] CBadCount fBadCount fdBadCount)
    (EBadWish : ErrK K "BadWish" "BadWish.__init__" sIBadWish ["at"] CBadWish fBadWish fdBadWish)
    (EBadRow : ErrK K "BadRow" "BadRow.__init__" sIBadRow ["at"] CBadRow fBadRow fdBadRow)
    (EBadText : ErrK K "BadText" "BadText.__init__" sIBadText ["line", "word"] CBadText fBadText fdBadText)
    (EBadLine : ErrK K "BadLine" "BadLine.__init__" sIBadLine ["word"] CBadLine fBadLine fdBadLine)
    (ETaken : ErrK K "Taken" "Taken.__init__" sITaken ["name"] CTaken fTaken fdTaken)
    (ENoGuest : ErrK K "NoGuest" "NoGuest.__init__" sINoGuest ["name"] CNoGuest fNoGuest fdNoGuest)
    (ENotLet : ErrK K "NotLet" "NotLet.__init__" sINotLet ["stay"] CNotLet fNotLet fdNotLet)
    (EOutside : ErrK K "Outside" "Outside.__init__" sIOutside ["stay"] COutside fOutside fdOutside)
    (EFull : ErrK K "Full" "Full.__init__" sIFull ["night"] CFull fFull fdFull)
    (ELoose : ErrK K "Loose" "Loose.__init__" sILoose ["name"] CLoose fLoose fdLoose)
    (ETooMany : ErrK K "TooMany" "TooMany.__init__" sITooMany ["what", "most"] CTooMany fTooMany fdTooMany)
    (EDead : ErrK K "Dead" "Dead.__init__" sIDead ["bar"] CDead fDead fdDead)
    (ENoDeed : PlainK K "NoDeed" CNoDeed)
    (ENoHouse : PlainK K "NoHouse" CNoHouse)
    (EStayError : PlainK K "StayError" CStayError)
    (EBadInput : PlainK K "BadInput" CBadInput)
    (ERefused : PlainK K "Refused" CRefused)
    (ENoAnswer : PlainK K "NoAnswer" CNoAnswer)
    (D_law_pen : DefK K "_law_pen" sPen f_law_pen fd_law_pen)
    (D_law_draw : DefK K "_law_draw" sDraw f_law_draw fd_law_draw)
    (D_law_pick : DefK K "_law_pick" sPick f_law_pick fd_law_pick)
    (D_law_value : DefK K "_law_value" sValue f_law_value fd_law_value)
    (D_law_raised : DefK K "_law_raised" sRaised f_law_raised fd_law_raised)
    (D_law_signs : DefK K "_law_signs" sSigns f_law_signs fd_law_signs)
    (D_law_inputs : DefK K "_law_inputs" sInputs f_law_inputs fd_law_inputs)
    (D_law_others : DefK K "_law_others" sOthers f_law_others fd_law_others)
    (Dlaw : DefK K "law" sLaw flaw fdlaw)
    (zint : PySem.W.nsIn K mainGlobals "int" = some none)
    (zlen : PySem.W.nsIn K mainGlobals "len" = some none)
    (zabs : PySem.W.nsIn K mainGlobals "abs" = some none)
    (zlist : PySem.W.nsIn K mainGlobals "list" = some none)
    (zrange : PySem.W.nsIn K mainGlobals "range" = some none)
    (zisinstance : PySem.W.nsIn K mainGlobals "isinstance" = some none)
    (zrepr : PySem.W.nsIn K mainGlobals "repr" = some none)
    (zValueError : PySem.W.nsIn K mainGlobals "ValueError" = some none)
    (isV : PySem.W.kitOne K (.ref CStayError) (.type "ValueError") = some true)
    (sg : sigAll K CBadLengths CBadDays CBadStay CBadRule CBadBook CBadStretch CBadCalendar CBadDoor CBadName CBadCount CBadWish CBadRow CBadText CBadLine CTaken CNoGuest CNotLet COutside CFull CLoose CTooMany CDead CNoDeed CNoHouse CStayError CBadInput CRefused CNoAnswer = true) :
    ∃ fd : FuncData, (∀ (s : Shared) (v : Value), BindsTo s fd ⟨[v], []⟩ [("_law_script", v)]) ∧ ∀ base : Heap, K.In base → base.Ns mainGlobals mg → FnG l.prog w K mg base CX0 5 fa fd ["_law_script"] (spLaw K) := by
  have e := hfa.symm.trans (PySem.W.mg_of X G Dlaw.ns)
  cases e
  unfold sigAll at sg
  simp only [Bool.and_eq_true] at sg
  obtain ⟨⟨⟨⟨⟨⟨⟨⟨⟨⟨⟨⟨⟨⟨⟨⟨⟨⟨⟨⟨⟨⟨⟨⟨⟨⟨⟨g0, g1⟩, g2⟩, g3⟩, g4⟩, g5⟩, g6⟩, g7⟩, g8⟩, g9⟩, g10⟩, g11⟩, g12⟩, g13⟩, g14⟩, g15⟩, g16⟩, g17⟩, g18⟩, g19⟩, g20⟩, g21⟩, g22⟩, g23⟩, g24⟩, g25⟩, g26⟩, g27⟩ := sg
  have T : Bi mg := ⟨PySem.W.mg_none_of X G zint, PySem.W.mg_none_of X G zlen, PySem.W.mg_none_of X G zabs, PySem.W.mg_none_of X G zlist, PySem.W.mg_none_of X G zrange, PySem.W.mg_none_of X G zisinstance, PySem.W.mg_none_of X G zrepr⟩
  have b_law_pen := D_law_pen.F.binds (ps := ["_law_script"]) fun _ _ _ _ _ _ us hl => match us, hl with | [_], _ => rfl
  have b_law_draw := D_law_draw.F.binds (ps := ["_law_pen_here", "_law_many"]) fun _ _ _ _ _ _ us hl => match us, hl with | [_, _], _ => rfl
  have b_law_pick := D_law_pick.F.binds (ps := ["_law_pen_here", "_law_some"]) fun _ _ _ _ _ _ us hl => match us, hl with | [_, _], _ => rfl
  have b_law_value := D_law_value.F.binds (ps := ["_law_pen_here"]) fun _ _ _ _ _ _ us hl => match us, hl with | [_], _ => rfl
  have b_law_raised := D_law_raised.F.binds (ps := ["_law_error"]) fun _ _ _ _ _ _ us hl => match us, hl with | [_], _ => rfl
  have b_law_signs := D_law_signs.F.binds (ps := ["_law_caught"]) fun _ _ _ _ _ _ us hl => match us, hl with | [_], _ => rfl
  have b_law_inputs := D_law_inputs.F.binds (ps := ["_law_thing"]) fun _ _ _ _ _ _ us hl => match us, hl with | [_], _ => rfl
  have b_law_others := D_law_others.F.binds (ps := ["_law_thing"]) fun _ _ _ _ _ _ us hl => match us, hl with | [_], _ => rfl
  have Z : Cl mg (fun i => ([CBadInput, CRefused, CNoAnswer, CBadLengths, CBadDays, CBadStay, CBadRule, CBadBook, CBadStretch, CBadCalendar, CBadDoor, CBadName, CBadCount, CBadWish, CBadRow, CBadText, CBadLine, CTaken, CNoGuest, CNotLet, COutside, CFull, CLoose, CTooMany, CDead, CNoDeed, CNoHouse]).getD i 0) := ⟨PySem.W.mg_of X G EBadInput.ns, PySem.W.mg_of X G ERefused.ns, PySem.W.mg_of X G ENoAnswer.ns, PySem.W.mg_of X G EBadLengths.ns, PySem.W.mg_of X G EBadDays.ns, PySem.W.mg_of X G EBadStay.ns, PySem.W.mg_of X G EBadRule.ns, PySem.W.mg_of X G EBadBook.ns, PySem.W.mg_of X G EBadStretch.ns, PySem.W.mg_of X G EBadCalendar.ns, PySem.W.mg_of X G EBadDoor.ns, PySem.W.mg_of X G EBadName.ns, PySem.W.mg_of X G EBadCount.ns, PySem.W.mg_of X G EBadWish.ns, PySem.W.mg_of X G EBadRow.ns, PySem.W.mg_of X G EBadText.ns, PySem.W.mg_of X G EBadLine.ns, PySem.W.mg_of X G ETaken.ns, PySem.W.mg_of X G ENoGuest.ns, PySem.W.mg_of X G ENotLet.ns, PySem.W.mg_of X G EOutside.ns, PySem.W.mg_of X G EFull.ns, PySem.W.mg_of X G ELoose.ns, PySem.W.mg_of X G ETooMany.ns, PySem.W.mg_of X G EDead.ns, PySem.W.mg_of X G ENoDeed.ns, PySem.W.mg_of X G ENoHouse.ns⟩
  refine ⟨fdlaw, ?_, fun base _ _ => ?_⟩
  · obtain ⟨oc, od, kV, doc, pm, an, cdv, ct, osl, rfl, _, _⟩ := Dlaw.F.ex
    exact fun s v => .of_eq rfl
  have RBadLengths : Err l.prog w K mg base "BadLengths" ["part"] CBadLengths := EBadLengths.err X G (okIBadLengths EBadLengths.F EBadLengths.oex (EBadLengths.nf _ (by decide +kernel)))
  have RBadDays : Err l.prog w K mg base "BadDays" ["part"] CBadDays := EBadDays.err X G (okIBadDays EBadDays.F EBadDays.oex (EBadDays.nf _ (by decide +kernel)))
  have RBadStay : Err l.prog w K mg base "BadStay" ["part"] CBadStay := EBadStay.err X G (okIBadStay EBadStay.F EBadStay.oex (EBadStay.nf _ (by decide +kernel)))
  have RBadRule : Err l.prog w K mg base "BadRule" ["part"] CBadRule := EBadRule.err X G (okIBadRule EBadRule.F EBadRule.oex (EBadRule.nf _ (by decide +kernel)))
  have RBadBook : Err l.prog w K mg base "BadBook" ["part"] CBadBook := EBadBook.err X G (okIBadBook EBadBook.F EBadBook.oex (EBadBook.nf _ (by decide +kernel)))
  have RBadStretch : Err l.prog w K mg base "BadStretch" ["part"] CBadStretch := EBadStretch.err X G (okIBadStretch EBadStretch.F EBadStretch.oex (EBadStretch.nf _ (by decide +kernel)))
  have RBadCalendar : Err l.prog w K mg base "BadCalendar" ["part"] CBadCalendar := EBadCalendar.err X G (okIBadCalendar EBadCalendar.F EBadCalendar.oex (EBadCalendar.nf _ (by decide +kernel)))
  have RBadDoor : Err l.prog w K mg base "BadDoor" ["part"] CBadDoor := EBadDoor.err X G (okIBadDoor EBadDoor.F EBadDoor.oex (EBadDoor.nf _ (by decide +kernel)))
  have RBadName : Err l.prog w K mg base "BadName" ["value"] CBadName := EBadName.err X G (okIBadName EBadName.F EBadName.oex (EBadName.nf _ (by decide +kernel)))
  have RBadCount : Err l.prog w K mg base "BadCount" ["value"] CBadCount := EBadCount.err X G (okIBadCount EBadCount.F EBadCount.oex (EBadCount.nf _ (by decide +kernel)))
  have RBadWish : Err l.prog w K mg base "BadWish" ["at"] CBadWish := EBadWish.err X G (okIBadWish EBadWish.F EBadWish.oex (EBadWish.nf _ (by decide +kernel)))
  have RBadRow : Err l.prog w K mg base "BadRow" ["at"] CBadRow := EBadRow.err X G (okIBadRow EBadRow.F EBadRow.oex (EBadRow.nf _ (by decide +kernel)))
  have RBadText : Err l.prog w K mg base "BadText" ["line", "word"] CBadText := EBadText.err X G (okIBadText EBadText.F EBadText.oex (EBadText.nf _ (by decide +kernel)) (EBadText.nf _ (by decide +kernel)))
  have RBadLine : Err l.prog w K mg base "BadLine" ["word"] CBadLine := EBadLine.err X G (okIBadLine EBadLine.F EBadLine.oex (EBadLine.nf _ (by decide +kernel)))
  have RTaken : Err l.prog w K mg base "Taken" ["name"] CTaken := ETaken.err X G (okITaken ETaken.F ETaken.oex (ETaken.nf _ (by decide +kernel)))
  have RNoGuest : Err l.prog w K mg base "NoGuest" ["name"] CNoGuest := ENoGuest.err X G (okINoGuest ENoGuest.F ENoGuest.oex (ENoGuest.nf _ (by decide +kernel)))
  have RNotLet : Err l.prog w K mg base "NotLet" ["stay"] CNotLet := ENotLet.err X G (okINotLet ENotLet.F ENotLet.oex (ENotLet.nf _ (by decide +kernel)))
  have ROutside : Err l.prog w K mg base "Outside" ["stay"] COutside := EOutside.err X G (okIOutside EOutside.F EOutside.oex (EOutside.nf _ (by decide +kernel)))
  have RFull : Err l.prog w K mg base "Full" ["night"] CFull := EFull.err X G (okIFull EFull.F EFull.oex (EFull.nf _ (by decide +kernel)))
  have RLoose : Err l.prog w K mg base "Loose" ["name"] CLoose := ELoose.err X G (okILoose ELoose.F ELoose.oex (ELoose.nf _ (by decide +kernel)))
  have RTooMany : Err l.prog w K mg base "TooMany" ["what", "most"] CTooMany := ETooMany.err X G (okITooMany ETooMany.F ETooMany.oex (ETooMany.nf _ (by decide +kernel)) (ETooMany.nf _ (by decide +kernel)))
  have RDead : Err l.prog w K mg base "Dead" ["bar"] CDead := EDead.err X G (okIDead EDead.F EDead.oex (EDead.nf _ (by decide +kernel)))
  have dDraw := D_law_draw.of X G (P := l.prog) (w := w) (base := base) (ok_draw D_law_draw.F T) b_law_draw
  have dPick := D_law_pick.of X G (P := l.prog) (w := w) (base := base) (ok_pick D_law_pick.F T dDraw) b_law_pick
  have dSigns := D_law_signs.of X G (P := l.prog) (w := w) (base := base) (ok_signs D_law_signs.F T Z) b_law_signs
  refine ok_law (rI := [(CBadLengths, "lengths"), (CBadDays, "days"), (CBadStay, "stay"), (CBadRule, "rule"), (CBadBook, "book"), (CBadStretch, "stretch"), (CBadCalendar, "calendar"), (CBadDoor, "door"), (CBadName, "name"), (CBadCount, "count"), (CBadWish, "wish"), (CBadRow, "row"), (CBadLine, "line")]) (rO := [(CTaken, "taken"), (CNoGuest, "guest"), (CNotLet, "let"), (COutside, "outside"), (CFull, "full"), (CLoose, "loose")]) Dlaw.F (D := fun i => ([CBadInput, CRefused, CNoAnswer, CBadLengths, CBadDays, CBadStay, CBadRule, CBadBook, CBadStretch, CBadCalendar, CBadDoor, CBadName, CBadCount, CBadWish, CBadRow, CBadText, CBadLine, CTaken, CNoGuest, CNotLet, COutside, CFull, CLoose, CTooMany, CDead, CNoDeed, CNoHouse]).getD i 0) (S := CStayError)
    { bi := T, vE := PySem.W.mg_none_of X G zValueError
      pen := D_law_pen.of X G (ok_pen D_law_pen.F T) b_law_pen
      value := D_law_value.of X G (ok_value D_law_value.F T dDraw dPick) b_law_value
      inputs := D_law_inputs.of X G (ok_inputs D_law_inputs.F RBadLengths RBadDays RBadStay RBadRule RBadBook RBadStretch RBadCalendar RBadDoor RBadName RBadCount RBadWish RBadRow RBadLine) b_law_inputs
      others := D_law_others.of X G (ok_others D_law_others.F RTaken RNoGuest RNotLet ROutside RFull RLoose) b_law_others
      raised := D_law_raised.of X G (ok_raised D_law_raised.F T (PySem.W.mg_of X G EStayError.ns) dSigns) b_law_raised
      okI := ?oI, okO := ?oO, zI := by show 13 ≤ 100; decide, zO := by show 6 ≤ 100; decide
      text := RBadText, many := RTooMany, dead := RDead
      deed := ENoDeed.plain X G, house := ENoHouse.plain X G, stay := EStayError.plain X G, inp := EBadInput.plain X G, ref := ERefused.plain X G, ans := ENoAnswer.plain X G
      rText := row_of g12 (by decide +kernel), rMany := row_of g20 (by decide +kernel), rDead := row_of g21 (by decide +kernel), rDeed := row_of g22 (by decide +kernel), rHouse := row_of g23 (by decide +kernel)
      rStay := row_of g24 (by decide +kernel), rIn := row_of g25 (by decide +kernel), rRef := row_of g26 (by decide +kernel), rAns := row_of g27 (by decide +kernel)
      isV := isV }
  case oI =>
    intro r hr
    simp only [List.mem_cons, List.mem_nil_iff, or_false] at hr
    rcases hr with rfl | rfl | rfl | rfl | rfl | rfl | rfl | rfl | rfl | rfl | rfl | rfl | rfl
    · exact ⟨row_of g0 (by show told _ = [.str "input", .str "lengths"]; decide +kernel), by show SeqAt.shaped (.list [.str "input", .str "lengths"]) = true; decide +kernel⟩
    · exact ⟨row_of g1 (by show told _ = [.str "input", .str "days"]; decide +kernel), by show SeqAt.shaped (.list [.str "input", .str "days"]) = true; decide +kernel⟩
    · exact ⟨row_of g2 (by show told _ = [.str "input", .str "stay"]; decide +kernel), by show SeqAt.shaped (.list [.str "input", .str "stay"]) = true; decide +kernel⟩
    · exact ⟨row_of g3 (by show told _ = [.str "input", .str "rule"]; decide +kernel), by show SeqAt.shaped (.list [.str "input", .str "rule"]) = true; decide +kernel⟩
    · exact ⟨row_of g4 (by show told _ = [.str "input", .str "book"]; decide +kernel), by show SeqAt.shaped (.list [.str "input", .str "book"]) = true; decide +kernel⟩
    · exact ⟨row_of g5 (by show told _ = [.str "input", .str "stretch"]; decide +kernel), by show SeqAt.shaped (.list [.str "input", .str "stretch"]) = true; decide +kernel⟩
    · exact ⟨row_of g6 (by show told _ = [.str "input", .str "calendar"]; decide +kernel), by show SeqAt.shaped (.list [.str "input", .str "calendar"]) = true; decide +kernel⟩
    · exact ⟨row_of g7 (by show told _ = [.str "input", .str "door"]; decide +kernel), by show SeqAt.shaped (.list [.str "input", .str "door"]) = true; decide +kernel⟩
    · exact ⟨row_of g8 (by show told _ = [.str "input", .str "name"]; decide +kernel), by show SeqAt.shaped (.list [.str "input", .str "name"]) = true; decide +kernel⟩
    · exact ⟨row_of g9 (by show told _ = [.str "input", .str "count"]; decide +kernel), by show SeqAt.shaped (.list [.str "input", .str "count"]) = true; decide +kernel⟩
    · exact ⟨row_of g10 (by show told _ = [.str "input", .str "wish"]; decide +kernel), by show SeqAt.shaped (.list [.str "input", .str "wish"]) = true; decide +kernel⟩
    · exact ⟨row_of g11 (by show told _ = [.str "input", .str "row"]; decide +kernel), by show SeqAt.shaped (.list [.str "input", .str "row"]) = true; decide +kernel⟩
    · exact ⟨row_of g13 (by show told _ = [.str "input", .str "line"]; decide +kernel), by show SeqAt.shaped (.list [.str "input", .str "line"]) = true; decide +kernel⟩
  case oO =>
    intro r hr
    simp only [List.mem_cons, List.mem_nil_iff, or_false] at hr
    rcases hr with rfl | rfl | rfl | rfl | rfl | rfl
    · exact ⟨row_of g14 (by show told _ = [.str "refused", .str "taken"]; decide +kernel), by show SeqAt.shaped (.list [.str "refused", .str "taken"]) = true; decide +kernel⟩
    · exact ⟨row_of g15 (by show told _ = [.str "refused", .str "guest"]; decide +kernel), by show SeqAt.shaped (.list [.str "refused", .str "guest"]) = true; decide +kernel⟩
    · exact ⟨row_of g16 (by show told _ = [.str "refused", .str "let"]; decide +kernel), by show SeqAt.shaped (.list [.str "refused", .str "let"]) = true; decide +kernel⟩
    · exact ⟨row_of g17 (by show told _ = [.str "refused", .str "outside"]; decide +kernel), by show SeqAt.shaped (.list [.str "refused", .str "outside"]) = true; decide +kernel⟩
    · exact ⟨row_of g18 (by show told _ = [.str "refused", .str "full"]; decide +kernel), by show SeqAt.shaped (.list [.str "refused", .str "full"]) = true; decide +kernel⟩
    · exact ⟨row_of g19 (by show told _ = [.str "refused", .str "loose"]; decide +kernel), by show SeqAt.shaped (.list [.str "refused", .str "loose"]) = true; decide +kernel⟩
theorem walk {l : PySem.W.OpenLaw} {q : Program} {loose : List Str} {XP : (Str → Option Value) → Heap → Prop} {YP : World → Heap → Prop} {d : DefRec} {K : Params → PySem.W.Frag} (hn : l.most = some 63) (hdf : d.params.defaults = [])
    (hY : ∀ (w : World) (h : Heap), YP w h → (K w.params).In h)
    (F : ∀ (w : World) (mg : Str → Option Value) (fa : Addr) (h : Heap), (K w.params).In h → h.Ns mainGlobals mg → mg d.name = some (.ref fa) →
      ∃ fd : FuncData, (∀ (s : Shared) (u : Value), BindsTo s fd ⟨[u], []⟩ [("_law_script", u)]) ∧ ∀ base : Heap, (K w.params).In base → base.Ns mainGlobals mg → FnG l.prog w (K w.params) mg base CX0 5 fa fd ["_law_script"] (spLaw (K w.params))) :
    PySem.W.WalkO q loose XP YP l.row.toRowW d [] (fun f vs => PySem.call f vs) :=
  walk_ofG (n := 63) (k := 5) (x := "_law_script") (sp := spLaw) hn (by decide) hdf ⟨rfl, by decide, by decide⟩ hY F (fun _ _ a ns hl _ hS => ⟨a, ns, rfl, hS, hl, fun _ => rfl⟩)
end NB
open PySem PySem.W PyProof.Rows in
set_option maxRecDepth 100000 in
set_option maxHeartbeats 0 in
theorem PySem.Challenge.cw_nodeadnight_k01_errors_and_their_fields_holds : PySem.Challenge.rw_nodeadnight_k01_errors_and_their_fields.Holds := by
  w_on; o_law; k_head; (case hw => w_witness2)
  k_fill
  refine NB.walk (l := PySem.Challenge.rw_nodeadnight_k01_errors_and_their_fields) rfl rfl (fun w h Y => PySem.W.kIn_of Y) ?F
  case F =>
    intro w mg fa h KX G hmg
    refine' NB.all_mk KX G hmg ?eBadLengths ?eBadDays ?eBadStay ?eBadRule ?eBadBook ?eBadStretch ?eBadCalendar ?eBadDoor ?eBadName ?eBadCount ?eBadWish ?eBadRow ?eBadText ?eBadLine ?eTaken ?eNoGuest ?eNotLet ?eOutside ?eFull ?eLoose ?eTooMany ?eDead ?pNoDeed ?pNoHouse ?pStayError ?pBadInput ?pRefused ?pNoAnswer ?d_law_pen ?d_law_draw ?d_law_pick ?d_law_value ?d_law_raised ?d_law_signs ?d_law_inputs ?d_law_others ?dlaw ?zint ?zlen ?zabs ?zlist ?zrange ?zisinstance ?zrepr ?zValueError ?isV ?sg
    (case eBadLengths => (refine' NB.err_mk ?a ?l ?r ?i ?t ?l2 ?c2 ?k2 ?b; (case a => k_is); (case l => k_is); (case r => rfl); (case i => k_is); (case t => k_is); (case l2 => k_is); (case c2 => k_is); (case k2 => k_is); (case b => kernel_rfl)))
    (case eBadDays => (refine' NB.err_mk ?a ?l ?r ?i ?t ?l2 ?c2 ?k2 ?b; (case a => k_is); (case l => k_is); (case r => rfl); (case i => k_is); (case t => k_is); (case l2 => k_is); (case c2 => k_is); (case k2 => k_is); (case b => kernel_rfl)))
    (case eBadStay => (refine' NB.err_mk ?a ?l ?r ?i ?t ?l2 ?c2 ?k2 ?b; (case a => k_is); (case l => k_is); (case r => rfl); (case i => k_is); (case t => k_is); (case l2 => k_is); (case c2 => k_is); (case k2 => k_is); (case b => kernel_rfl)))
    (case eBadRule => (refine' NB.err_mk ?a ?l ?r ?i ?t ?l2 ?c2 ?k2 ?b; (case a => k_is); (case l => k_is); (case r => rfl); (case i => k_is); (case t => k_is); (case l2 => k_is); (case c2 => k_is); (case k2 => k_is); (case b => kernel_rfl)))
    (case eBadBook => (refine' NB.err_mk ?a ?l ?r ?i ?t ?l2 ?c2 ?k2 ?b; (case a => k_is); (case l => k_is); (case r => rfl); (case i => k_is); (case t => k_is); (case l2 => k_is); (case c2 => k_is); (case k2 => k_is); (case b => kernel_rfl)))
    (case eBadStretch => (refine' NB.err_mk ?a ?l ?r ?i ?t ?l2 ?c2 ?k2 ?b; (case a => k_is); (case l => k_is); (case r => rfl); (case i => k_is); (case t => k_is); (case l2 => k_is); (case c2 => k_is); (case k2 => k_is); (case b => kernel_rfl)))
    (case eBadCalendar => (refine' NB.err_mk ?a ?l ?r ?i ?t ?l2 ?c2 ?k2 ?b; (case a => k_is); (case l => k_is); (case r => rfl); (case i => k_is); (case t => k_is); (case l2 => k_is); (case c2 => k_is); (case k2 => k_is); (case b => kernel_rfl)))
    (case eBadDoor => (refine' NB.err_mk ?a ?l ?r ?i ?t ?l2 ?c2 ?k2 ?b; (case a => k_is); (case l => k_is); (case r => rfl); (case i => k_is); (case t => k_is); (case l2 => k_is); (case c2 => k_is); (case k2 => k_is); (case b => kernel_rfl)))
    (case eBadName => (refine' NB.err_mk ?a ?l ?r ?i ?t ?l2 ?c2 ?k2 ?b; (case a => k_is); (case l => k_is); (case r => rfl); (case i => k_is); (case t => k_is); (case l2 => k_is); (case c2 => k_is); (case k2 => k_is); (case b => kernel_rfl)))
    (case eBadCount => (refine' NB.err_mk ?a ?l ?r ?i ?t ?l2 ?c2 ?k2 ?b; (case a => k_is); (case l => k_is); (case r => rfl); (case i => k_is); (case t => k_is); (case l2 => k_is); (case c2 => k_is); (case k2 => k_is); (case b => kernel_rfl)))
    (case eBadWish => (refine' NB.err_mk ?a ?l ?r ?i ?t ?l2 ?c2 ?k2 ?b; (case a => k_is); (case l => k_is); (case r => rfl); (case i => k_is); (case t => k_is); (case l2 => k_is); (case c2 => k_is); (case k2 => k_is); (case b => kernel_rfl)))
    (case eBadRow => (refine' NB.err_mk ?a ?l ?r ?i ?t ?l2 ?c2 ?k2 ?b; (case a => k_is); (case l => k_is); (case r => rfl); (case i => k_is); (case t => k_is); (case l2 => k_is); (case c2 => k_is); (case k2 => k_is); (case b => kernel_rfl)))
    (case eBadText => (refine' NB.err_mk ?a ?l ?r ?i ?t ?l2 ?c2 ?k2 ?b; (case a => k_is); (case l => k_is); (case r => rfl); (case i => k_is); (case t => k_is); (case l2 => k_is); (case c2 => k_is); (case k2 => k_is); (case b => kernel_rfl)))
    (case eBadLine => (refine' NB.err_mk ?a ?l ?r ?i ?t ?l2 ?c2 ?k2 ?b; (case a => k_is); (case l => k_is); (case r => rfl); (case i => k_is); (case t => k_is); (case l2 => k_is); (case c2 => k_is); (case k2 => k_is); (case b => kernel_rfl)))
    (case eTaken => (refine' NB.err_mk ?a ?l ?r ?i ?t ?l2 ?c2 ?k2 ?b; (case a => k_is); (case l => k_is); (case r => rfl); (case i => k_is); (case t => k_is); (case l2 => k_is); (case c2 => k_is); (case k2 => k_is); (case b => kernel_rfl)))
    (case eNoGuest => (refine' NB.err_mk ?a ?l ?r ?i ?t ?l2 ?c2 ?k2 ?b; (case a => k_is); (case l => k_is); (case r => rfl); (case i => k_is); (case t => k_is); (case l2 => k_is); (case c2 => k_is); (case k2 => k_is); (case b => kernel_rfl)))
    (case eNotLet => (refine' NB.err_mk ?a ?l ?r ?i ?t ?l2 ?c2 ?k2 ?b; (case a => k_is); (case l => k_is); (case r => rfl); (case i => k_is); (case t => k_is); (case l2 => k_is); (case c2 => k_is); (case k2 => k_is); (case b => kernel_rfl)))
    (case eOutside => (refine' NB.err_mk ?a ?l ?r ?i ?t ?l2 ?c2 ?k2 ?b; (case a => k_is); (case l => k_is); (case r => rfl); (case i => k_is); (case t => k_is); (case l2 => k_is); (case c2 => k_is); (case k2 => k_is); (case b => kernel_rfl)))
    (case eFull => (refine' NB.err_mk ?a ?l ?r ?i ?t ?l2 ?c2 ?k2 ?b; (case a => k_is); (case l => k_is); (case r => rfl); (case i => k_is); (case t => k_is); (case l2 => k_is); (case c2 => k_is); (case k2 => k_is); (case b => kernel_rfl)))
    (case eLoose => (refine' NB.err_mk ?a ?l ?r ?i ?t ?l2 ?c2 ?k2 ?b; (case a => k_is); (case l => k_is); (case r => rfl); (case i => k_is); (case t => k_is); (case l2 => k_is); (case c2 => k_is); (case k2 => k_is); (case b => kernel_rfl)))
    (case eTooMany => (refine' NB.err_mk ?a ?l ?r ?i ?t ?l2 ?c2 ?k2 ?b; (case a => k_is); (case l => k_is); (case r => rfl); (case i => k_is); (case t => k_is); (case l2 => k_is); (case c2 => k_is); (case k2 => k_is); (case b => kernel_rfl)))
    (case eDead => (refine' NB.err_mk ?a ?l ?r ?i ?t ?l2 ?c2 ?k2 ?b; (case a => k_is); (case l => k_is); (case r => rfl); (case i => k_is); (case t => k_is); (case l2 => k_is); (case c2 => k_is); (case k2 => k_is); (case b => kernel_rfl)))
    (case pNoDeed => (refine' NB.plain_mk ?a ?k ?e ?b; (case a => k_is); (case k => k_is); (case e => k_exc); (case b => kernel_rfl)))
    (case pNoHouse => (refine' NB.plain_mk ?a ?k ?e ?b; (case a => k_is); (case k => k_is); (case e => k_exc); (case b => kernel_rfl)))
    (case pStayError => (refine' NB.plain_mk ?a ?k ?e ?b; (case a => k_is); (case k => k_is); (case e => k_exc); (case b => kernel_rfl)))
    (case pBadInput => (refine' NB.plain_mk ?a ?k ?e ?b; (case a => k_is); (case k => k_is); (case e => k_exc); (case b => kernel_rfl)))
    (case pRefused => (refine' NB.plain_mk ?a ?k ?e ?b; (case a => k_is); (case k => k_is); (case e => k_exc); (case b => kernel_rfl)))
    (case pNoAnswer => (refine' NB.plain_mk ?a ?k ?e ?b; (case a => k_is); (case k => k_is); (case e => k_exc); (case b => kernel_rfl)))
    (case d_law_pen => (refine' NB.def_mk ?a ?l ?c ?k; (case a => k_is); (case l => k_is); (case c => k_is); (case k => k_is)))
    (case d_law_draw => (refine' NB.def_mk ?a ?l ?c ?k; (case a => k_is); (case l => k_is); (case c => k_is); (case k => k_is)))
    (case d_law_pick => (refine' NB.def_mk ?a ?l ?c ?k; (case a => k_is); (case l => k_is); (case c => k_is); (case k => k_is)))
    (case d_law_value => (refine' NB.def_mk ?a ?l ?c ?k; (case a => k_is); (case l => k_is); (case c => k_is); (case k => k_is)))
    (case d_law_raised => (refine' NB.def_mk ?a ?l ?c ?k; (case a => k_is); (case l => k_is); (case c => k_is); (case k => k_is)))
    (case d_law_signs => (refine' NB.def_mk ?a ?l ?c ?k; (case a => k_is); (case l => k_is); (case c => k_is); (case k => k_is)))
    (case d_law_inputs => (refine' NB.def_mk ?a ?l ?c ?k; (case a => k_is); (case l => k_is); (case c => k_is); (case k => k_is)))
    (case d_law_others => (refine' NB.def_mk ?a ?l ?c ?k; (case a => k_is); (case l => k_is); (case c => k_is); (case k => k_is)))
    (case dlaw => (refine' NB.def_mk ?a ?l ?c ?k; (case a => k_is); (case l => k_is); (case c => k_is); (case k => k_is)))
    (case zint => k_is)
    (case zlen => k_is)
    (case zabs => k_is)
    (case zlist => k_is)
    (case zrange => k_is)
    (case zisinstance => k_is)
    (case zrepr => k_is)
    (case zValueError => k_is)
    (case isV => kernel_rfl)
    (case sg => kernel_rfl)
#print axioms PySem.Challenge.cw_nodeadnight_k01_errors_and_their_fields_holds
