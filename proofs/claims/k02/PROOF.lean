import PyProof.Rows.All
import Wide.All
import OpenK.AllK
import Wide.FinOn
import HandS.ForMost
import HandS.ForExc
import HandS.HeadEnd
import HandS.Defaults
import HandS.ExcValue
import KE.KExcSuper
import KE.KExcIs
import HandS.ExcInit
import HandS.IsInst
import HandS.ExcSuper
import HandS.MakeKwOnly
import HandS.ExcField
import HandS.Wide
import HandS.SetFor
import HandS.Walk
import HandS.Head0
import HandS.Head1
import HandS.Head2
import HandS.HeadHook1
import HandS.HeadHook2
import HandS.Zip
import HandS.ListEq
import KE.KDictPairs
import HandS.HeadHook3
import HandS.Property
import HandS.More
import HandS.TupLe
import HandS.Deep
import HandS.NoneIn
import HandS.DictComp
import HandS.Star
import HandS.SlotsOwn
import PyProof.StrLawsChain
import HandS.ExcOwn
import HandS.RaiseMore
import PySem.Challenge.RW_steadylabels_k02_whole_the_first_wrong_l
set_option Elab.async false
set_option linter.all false
set_option maxRecDepth 100000
set_option maxHeartbeats 4000000
/-! a def's promise where no guard is under way (so that repr is told exactly) -/
namespace SL
open PySem PySem.Spec PyProof.Rows L2
structure FnG (P : Program) (w : World) (K : PySem.W.Frag) (mg : Str → Option Value) (base : Heap) (CX : CXT)
    (k : Nat) (f : Addr) (fd : FuncData) (ps : List Str) (sp : Sp) : Prop where
  len : ∀ vs H Q E, sp vs H Q E → vs.length = ps.length
  run : ∀ (A : Around) (outer : List Env) (s : Shared) (H : Hp) (args : Args) (us : List Value) (vs : List V) (Q : VK) (E : XK),
    A.guards = some [] → Room k A → Env0 P w K mg base A outer s H → BindsTo s fd args (ps.zip us) → Vals vs us → sp vs H Q E →
    codeAny (model P w) A (.call (.ref f) args) (CR CX outer P w H s Q E) s
theorem FnG.of {P : Program} {w : World} {K : PySem.W.Frag} {mg : Str → Option Value} {base : Heap} {CX : CXT}
    {k : Nat} {f : Addr} {fd : FuncData} {ps : List Str} {sp : Sp} (F : FnOk P w K mg base CX k f fd ps sp) : FnG P w K mg base CX k f fd ps sp :=
  ⟨F.len, fun A outer s H args us vs Q E _ => F.run A outer s H args us vs Q E⟩
/-- one entry of a def, at its own surroundings -/
theorem fn_at {CX : CXT} {P : Program} {w : World} {K : PySem.W.Frag} {mg : Str → Option Value} {base : Heap} {k : Nat} {f : Addr}
    {name qual : Str} {params : Arguments} {body : List Stmt} {scope : Scope} {dV kV doc pm cdv ct oc : Value} {an od : Option Addr}
    {osl : Array (Option Value)} {N ps : List Str} {A : Around} {outer : List Env} {s : Shared} {H : Hp} {args : Args} {us : List Value} {vs : List V} {Q : VK} {E : XK}
    (lk : K.lookup f = some ⟨oc, od, .func (PySem.W.fnOf name qual params body scope dV kV doc pm an cdv ct), osl⟩)
    (hcd : PySem.W.codeIn K cdv qual = true) (S : FnScope N ps scope) (hl : vs.length = ps.length)
    (hr : Room (k + 1) A) (e0 : Env0 P w K mg base A outer s H)
    (hb : BindsTo s (PySem.W.fnOf name qual params body scope dV kV doc pm an cdv ct) args (ps.zip us)) (r : Vals vs us)
    (hbody : ∃ t, PSs (cxOf CX P w K mg base N qual scope f cdv A outer s H E) body t ∧
      t { nx := fun _ H' => Q .non H', rt := Q } (start N vs) H) :
    codeAny (model P w) A (.call (.ref f) args) (CR CX outer P w H s Q E) s := by
  have kin0 : K.In s.heap := e0.mod.kin.keeps fun b o e => (e0.bs b o e).1
  have nl0 : s.heap.NoLimit := e0.mod.nolimit.keeps fun b o e => (e0.bs b o e).1
  have hkind : ∀ y ∈ ps.zip us, scope.names.lookup y.1 = some .local ∨
      (scope.names.lookup y.1 = some .cell ∧ ((cellsFrom (s.heap.objs.size + 1) scope.names []).lookup y.1).isSome = true) := by
    rintro ⟨n, v⟩ hy
    rcases S.par n (List.of_mem_zip hy).1 with q | q
    · exact Or.inl q
    · exact Or.inr ⟨q, PySem.W.cellsFrom_some _ _ _ (Or.inl q)⟩
  refine codeAny_call_function hr.depth (kin0 _ _ lk) rfl S.co S.gen rfl (PySem.W.codeRec_of kin0 hcd) (hb _ _ _ _ ?_)
  refine wpAny_newFunctionEnv_cells S.kind hkind fun env' he' s1 x1 => ?_
  subst he'
  refine ⟨nl0.keeps x1.toInCall.keep, codeAny_func ?_⟩
  obtain ⟨t, ht, hq⟩ := hbody
  have I0 : Inv (cxOf CX P w K mg base N qual scope f cdv A outer s H E) [] (start N vs) H s1 := inv_start S hr.hd e0 hl r x1
  refine wpAny_mono (ht.run [] s1 (start N vs) H _ I0 hq) (fun fl s' hs => ?_) (fun e s' hs => hs)
  cases fl with
  | ret u =>
    obtain ⟨v, σ', H', J, rv, q⟩ := hs
    exact ⟨v, H', J.os, J.bare, J.base, J.hok, rv, q⟩
  | next =>
    obtain ⟨σ', H', J, q⟩ := hs
    exact ⟨V.non, H', J.os, J.bare, J.base, J.hok, (rfl : Value.none = Value.none), q⟩
  | brk => exact (hs.elim fun _ z => z.elim fun _ y => y.2.elim)
  | cont => exact (hs.elim fun _ z => z.elim fun _ y => y.2.elim)
/-- a def by its body, no guard under way -/
theorem funD_okG {P : Program} {w : World} {K : PySem.W.Frag} {mg : Str → Option Value} {base : Heap} {x qual : Str} {params : Arguments}
    {body : List Stmt} {scope : Scope} {dvs : List V} {kws : List (Str × V)} {f : Addr} {fd : FuncData} {CX : CXT} {N ps : List Str} {k : Nat} {sp : Sp}
    (F : FunD K x qual params body scope dvs kws f fd) (S : FnScope N ps scope) (len : ∀ vs H Q E, sp vs H Q E → vs.length = ps.length)
    (hbody : ∀ (cdv : Value) (A : Around) (outer : List Env) (s : Shared) (H : Hp) (vs : List V) (Q : VK) (E : XK),
      (A.deeper (envOfC qual scope s.heap.objs.size f cdv)).guards = some [] → Room k (A.deeper (envOfC qual scope s.heap.objs.size f cdv)) → sp vs H Q E →
      ∃ t, PSs (cxOf CX P w K mg base N qual scope f cdv A outer s H E) body t ∧ t { nx := fun _ H' => Q .non H', rt := Q } (start N vs) H) :
    FnG P w K mg base CX (k + 1) f fd ps sp := by
  obtain ⟨oc, od, dV, kV, doc, pm, an, cdv, ct, osl, rfl, lk, hcd, _, _⟩ := F.ex
  refine ⟨len, fun A outer s H args us vs Q E hg hr e0 hb r hsp => ?_⟩
  exact fn_at lk hcd S (len _ _ _ _ hsp) hr e0 hb r (hbody cdv A outer s H vs Q E hg (hr.deeper _) hsp)
section
variable {X : Cx} {CX : CXT} {k : Nat} {f : Addr} {fd : FuncData} {ps : List Str} {sp : Sp} {dvs : List V} {ds : List Value} {E : XK} {x : Str} {p pos : Pos} {e : Expr} {es : List Expr} {t : TA}
theorem run_fnG {pins : List (Addr × Obj)} {σ : L2.St} {H : Hp} {s : Shared} {Q : VK} {us : List Value} {vs : List V}
    (F : FnG X.prog X.w X.K X.mg X.base CX k f fd ps sp) (hg : X.A.guards = some []) (hr : Room k X.A) (hb : Binds X.K fd ps ds) (hd : Vals dvs ds) (hx : Passes CX X E)
    (I : Inv X pins σ H s) (r : Vals vs us) (h : sp (vs ++ dvs) H Q E) : wpAny (model X.prog X.w) X.A (call (.ref f) us) (EP X pins σ Q) X.xe s := by
  have rr : Vals (vs ++ dvs) (us ++ ds) := Vals.append r hd
  have hl : (us ++ ds).length = ps.length := rr.length.symm.trans (F.len _ _ _ _ h)
  have go := F.run X.A X.stack s H ⟨us, []⟩ (us ++ ds) (vs ++ dvs) Q E hg hr I.env0 (hb s us I.kIn hl) rr h
  refine wpAny_call (codeAny_mono go fun res s' hq => ?_)
  cases res with
  | error e => exact hx pins σ H s e s' I hq
  | ok fl => cases fl with
    | ret u => exact I.after hq
    | next => exact hq.elim
    | brk => exact hq.elim
    | cont => exact hq.elim
/-- f(e, ..) of such a def -/
theorem pe_callG (F : FnG X.prog X.w X.K X.mg X.base CX k f fd ps sp) (hgd : X.A.guards = some []) (hr : Room k X.A) (hg : Gl X x) (hm : X.mg x = some (.ref f))
    (hk : PySem.W.keepIn X.K (.ref f) = true) (hb : Binds X.K fd ps ds) (hd : Vals dvs ds) (hx : Passes CX X E) (ha : PA X (e :: es) t)
    (hdb : (x == ("__debug__" : Str)) = false := by decide) (he : starEach (e :: es) X.env = (false, eval e X.env) :: starEach es X.env := by rfl)
    (hpl : (backTo pos (starEach es X.env)).any (·.1) = false := by rfl) : PE X (.Call (.Name x p) (e :: es) [] pos) (tCall sp dvs E t) := by
  constructor
  intro pins s σ H Q I h
  refine wpAny_Call_Name_kw (ld_glob I hg hm ?_ hdb)
  refine PySem.W.callWith_K (h₀ := X.base) I.ok.mod.kin hk ?_ he hpl
  exact thn (ha.run pos pins s σ H _ I h) fun us s1 ⟨vs, H1, I1, r, q⟩ => ⟨I1.kIn, run_fnG F hgd hr hb hd hx I1 r q⟩
end
/-- what the law's call is to end in -/
def LawEnd (s₁ : Shared) (r : Result) (s' : Shared) : Prop :=
  r = .ok (.ret (.bool true)) ∧ OldK s₁.heap s'.heap ∧ s'.os = s₁.os ∧ AllBare s'.gens
section
variable {P : Program} {w : World} {K : PySem.W.Frag} {mg mb : Str → Option Value} {CX : CXT} {k : Nat} {fa a : Addr}
  {fd : FuncData} {x : Str} {sp : Sp} {s₁ : Shared} {vs : List Value} {ns : List Int}
theorem law_core (KX : K.In s₁.heap) (hns : s₁.heap.Ns mainGlobals mg) (hb : s₁.heap.Ns builtinsNs mb)
    (hbb : ∀ x : Str, x ≠ "__name__" → mb x = bootBuiltins x) (hlim : s₁.heap.NoLimit) (hg : s₁.gens = #[])
    (ha : s₁.heap.get? a = some { cls := .type "list", data := .seq vs.toArray }) (hr : Room k callerA)
    (F : ∀ base : Heap, K.In base → base.Ns mainGlobals mg → FnG P w K mg base CX k fa fd [x] sp)
    (hbind : ∀ (s : Shared) (u : Value), BindsTo s fd ⟨[u], []⟩ [(x, u)])
    (hCX : ∀ H e s', CX [] H s₁ (fun _ _ _ => False) e s' → False)
    {H : Hp} (hO : Only H) (hok : HOk P w H s₁.heap) (hA : ∀ b, H b ≠ none → b = a) (hK : H a ≠ none → K.lookup a = none)
    (hsp : sp [.ref a] H (fun v _ => v = .bl true) fun _ _ _ => False) :
    codeAny (model P w) callerA (.call (.ref fa) ⟨[.ref a], []⟩) (LawEnd s₁) s₁ := by
  have free_of : ∀ {b : Addr}, b ≠ a → H b = none := fun {b} hne => by
    cases q : H b with
    | none => rfl
    | some u => exact absurd (hA b (by rw [q]; simp)) hne
  have lift : ∀ {b : Addr} {m : Str → Option Value}, s₁.heap.Ns b m → (hidT s₁.heap H).Ns b m := by
    rintro b m ⟨o, es, ep, e, d, r⟩
    refine ⟨o, es, ep, hidT_get e (free_of fun z => ?_), d, r⟩
    rw [z, ha] at e
    cases e
    have d' : Data.seq vs.toArray _ = Data.dict es ep := d
    cases d'
  have kb : K.In (hidT s₁.heap H) := by
    intro b o e
    refine hidT_get (KX b o e) ?_
    cases q : H b with
    | none => rfl
    | some u =>
      have eb : b = a := hA b (by rw [q]; simp)
      subst eb
      rw [hK (by rw [q]; simp)] at e
      cases e
  have md : Mod K mg (hidT s₁.heap H) := by
    obtain ⟨mc, c1, c2⟩ := hlim
    exact ⟨kb, lift hns, ⟨mb, lift hb, hbb⟩, ⟨mc, lift c1, c2⟩⟩
  have en : Env0 P w K mg (hidT s₁.heap H) callerA [] s₁ H := by
    refine ⟨rfl, md, fun b o e => of_hidT e, Nat.le_of_eq (hidT_size _ _), trivial, ?_, hok, .of_eq hg⟩
    intro b hb'
    exact absurd (show b ∈ ([] : List Addr) from hb') (by simp)
  have go := (F _ kb (lift hns)).run callerA [] s₁ H ⟨[.ref a], []⟩ [.ref a] [.ref a] _ _ rfl hr en (hbind s₁ (.ref a)) (.cons rfl .nil) hsp
  refine codeAny_mono go fun r s' h => ?_
  cases r with
  | error e => exact (hCX H e s' h).elim
  | ok fl => cases fl with
    | next => exact h.elim
    | brk => exact h.elim
    | cont => exact h.elim
    | ret u =>
      obtain ⟨v, H', os, bare, un, hok', r', q⟩ := h
      have q' : v = .bl true := q
      subst q'
      have eu : u = Value.bool true := r'
      subst eu
      refine ⟨rfl, OldK.of_keep ?_, os, bare⟩
      intro b o e
      rcases hO b with z | ⟨ob, xs, z⟩
      · exact un.keep b o e z (fun y => absurd (show b ∈ ([] : List Addr) from y) (by simp)) (by simp)
      · have e1 := (hok b _ z).1
        have e2 := (hok' b _ (un.frzs b ob _ z)).1
        rw [e] at e1
        cases e1
        exact e2
/-- the law's end over such a promise -/
theorem law_callG (KX : K.In s₁.heap) (hns : s₁.heap.Ns mainGlobals mg) (hb : s₁.heap.Ns builtinsNs mb)
    (hbb : ∀ x : Str, x ≠ "__name__" → mb x = bootBuiltins x) (hlim : s₁.heap.NoLimit) (hg : s₁.gens = #[])
    (ha : s₁.heap.get? a = some { cls := .type "list", data := .seq vs.toArray }) (hi : IntsAre vs ns) (hl : ns.length ≤ sizeLine) (hr : Room k callerA)
    (F : ∀ base : Heap, K.In base → base.Ns mainGlobals mg → FnG P w K mg base CX k fa fd [x] sp)
    (hbind : ∀ (s : Shared) (u : Value), BindsTo s fd ⟨[u], []⟩ [(x, u)])
    (hsp : ∀ H : Hp, Only H → SqL K H a (ns.map V.int) → sp [.ref a] H (fun v _ => v = .bl true) fun _ _ _ => False)
    (hCX : ∀ H e s', CX [] H s₁ (fun _ _ _ => False) e s' → False) :
    codeAny (model P w) callerA (.call (.ref fa) ⟨[.ref a], []⟩) (LawEnd s₁) s₁ := by
  have rv := vals_ints hi
  have hlen := hi.length
  cases hk : K.lookup a with
  | some o =>
    have e := KX a o hk
    rw [ha] at e
    cases e
    have sq : SqL K (fun _ => none) a (ns.map V.int) :=
      .inr ⟨_, vs.toArray, _, hk, rfl, rfl, rfl, by rw [List.size_toArray, hlen]; exact hl, by simpa using rv⟩
    have on : Only (fun _ => none) := fun _ => .inl rfl
    refine law_core KX hns hb hbb hlim hg ha hr F hbind hCX on ?_ (fun b z => absurd rfl z) (fun z => absurd rfl z) (hsp _ on sq)
    intro b u z
    cases (show (none : Option HO) = some u from z)
  | none =>
    let T : HO := .frz { cls := .type "list", data := .seq vs.toArray } (.lst (ns.map V.int))
    have hT : ∀ b, upd (fun _ => none) a T b = some T ∨ upd (fun _ => none) a T b = none := fun b => by
      by_cases hb' : b = a
      · left; rw [hb', upd_same]
      · right; rw [upd_ne hb']
    have on : Only (upd (fun _ => none) a T) := fun b => by
      rcases hT b with z | z
      · exact .inr ⟨_, _, z⟩
      · exact .inl z
    have hA : ∀ b, upd (fun _ => none) a T b ≠ none → b = a := fun b z => by
      by_cases hb' : b = a
      · exact hb'
      · exact absurd (upd_ne hb') z
    refine law_core KX hns hb hbb hlim hg ha hr F hbind hCX on ?_ hA (fun _ => hk) (hsp _ on (.inl (.inr ⟨_, upd_same⟩)))
    intro b u z
    have eb : b = a := hA b (by rw [z]; simp)
    subst eb
    rw [upd_same] at z
    cases z
    exact ⟨ha, by rw [List.length_map]; exact hl, vs, _, rv, ha⟩
end
theorem walk_ofG {l : PySem.W.OpenLaw} {n k : Nat} {q : Program} {loose : List Str} {XP : (Str → Option Value) → Heap → Prop} {YP : World → Heap → Prop} {d : DefRec} {CX : World → CXT} {x : Str}
    (hn : l.most = some n) (hn2 : n ≤ sizeLine) (hdf : d.params.defaults = []) (hr : Room k callerA)
    (F : ∀ (w : World) (mg : Str → Option Value) (fa : Addr) (h : Heap), YP w h → h.Ns mainGlobals mg → mg d.name = some (.ref fa) →
      ∃ (K : PySem.W.Frag) (fd : FuncData) (sp : Sp), K.In h ∧ (∀ (s : Shared) (u : Value), BindsTo s fd ⟨[u], []⟩ [(x, u)]) ∧
        (∀ (H : Hp) (a : Addr) (ns : List Int), ns.length ≤ n → Only H → SqL K H a (ns.map V.int) → sp [.ref a] H (fun v _ => v = .bl true) fun _ _ _ => False) ∧
        ∀ base : Heap, K.In base → base.Ns mainGlobals mg → FnG l.prog w K mg base (CX w) k fa fd [x] sp)
    (hCX : ∀ (w : World) (H : Hp) (s : Shared) (e : Value) (s' : Shared), CX w [] H s (fun _ _ _ => False) e s' → False) :
    PySem.W.WalkO q loose XP YP l.row.toRowW d [] (fun f vs => PySem.call f vs) := by
  refine Att.attach_call hn hdf ?_
  intro w s₀ s₁ mg mb fa o pm cd doc a vs ns G Y ho hd hcd hmg hobj hints hlen hg
  obtain ⟨K, fd, sp, KX, hb, hsp, hF⟩ := F w mg fa _ Y G.T.g hmg
  have hl : ns.length ≤ sizeLine := Nat.le_trans hlen hn2
  exact law_callG KX G.T.g G.T.b G.T.builtins G.T.nolimit hg hobj hints hl hr hF hb (fun H hO hS => hsp H a ns hlen hO hS) (fun H e s' => hCX w H s₁ e s')
end SL
set_option maxHeartbeats 4000000
/-! repr of nested data that is tracked -/
namespace SL
open PySem PySem.Spec PyProof.Rows L2
def kD : Key → PyData
  | .inl i => .int i
  | .inr x => .str x
mutual
/-- the data that a tracked value holds -/
inductive Rv (H : Hp) : V → PyData → Prop
  | non : Rv H .non .none
  | bl (b : Bool) : Rv H (.bl b) (.bool b)
  | int (i : Int) : Rv H (.int i) (.int i)
  | str (x : Str) : Rv H (.str x) (.str x)
  | lst {a : Addr} {xs : List V} {ds : List PyData} : H a = some (.lst xs) → RvL H xs ds → Rv H (.ref a) (.list ds)
  | tup {a : Addr} {xs : List V} {ds : List PyData} : H a = some (.tup xs) → RvL H xs ds → Rv H (.ref a) (.tuple ds)
  | dK {a : Addr} {kvs : List (Key × V)} {ps : List (PyData × PyData)} : H a = some (.dK kvs) → ps.map (·.1) = kvs.map (fun q => kD q.1) →
      RvL H (kvs.map (·.2)) (ps.map (·.2)) → Rv H (.ref a) (.dict ps)
inductive RvL (H : Hp) : List V → List PyData → Prop
  | nil : RvL H [] []
  | cons {v : V} {vs : List V} {d : PyData} {ds : List PyData} : Rv H v d → RvL H vs ds → RvL H (v :: vs) (d :: ds)
end
mutual
theorem Rv.same {H H' : Hp} (e : Same H H') : ∀ {v : V} {d : PyData}, Rv H v d → Rv H' v d
  | _, _, .non => .non
  | _, _, .bl b => .bl b
  | _, _, .int i => .int i
  | _, _, .str x => .str x
  | _, _, .lst h r => .lst (e _ _ h) (RvL.same e r)
  | _, _, .tup h r => .tup (e _ _ h) (RvL.same e r)
  | _, _, .dK h k r => .dK (e _ _ h) k (RvL.same e r)
theorem RvL.same {H H' : Hp} (e : Same H H') : ∀ {vs : List V} {ds : List PyData}, RvL H vs ds → RvL H' vs ds
  | _, _, .nil => .nil
  | _, _, .cons h r => .cons (Rv.same e h) (RvL.same e r)
end
theorem RvL.snoc {H : Hp} {v : V} {d : PyData} (h : Rv H v d) : ∀ {vs : List V} {ds : List PyData}, RvL H vs ds → RvL H (vs ++ [v]) (ds ++ [d])
  | _, _, .nil => .cons h .nil
  | _, _, .cons g r => .cons g (RvL.snoc h r)
theorem RvL.length {H : Hp} : ∀ {vs : List V} {ds : List PyData}, RvL H vs ds → vs.length = ds.length
  | _, _, .nil => rfl
  | _, _, .cons _ r => by rw [List.length_cons, List.length_cons, RvL.length r]
theorem RvL.ints (H : Hp) : ∀ ns : List Int, RvL H (ns.map V.int) (ns.map PyData.int)
  | [] => .nil
  | n :: ns => .cons (.int n) (RvL.ints H ns)
theorem RvL.strs (H : Hp) : ∀ ns : List Str, RvL H (ns.map V.str) (ns.map PyData.str)
  | [] => .nil
  | n :: ns => .cons (.str n) (RvL.strs H ns)
/-- fit to be shown -/
structure Sh (d : PyData) (n m : Nat) : Prop where
  sh : d.showable = true
  lf : d.leavesShort 40 = true
  dp : d.depth ≤ m
  wt : d.weight ≤ n
theorem Sh.mono {d : PyData} {n m n' m' : Nat} (h : Sh d n m) (hn : n ≤ n') (hm : m ≤ m') : Sh d n' m' := ⟨h.sh, h.lf, Nat.le_trans h.dp hm, Nat.le_trans h.wt hn⟩
theorem Sh.len {d : PyData} {n m : Nat} (h : Sh d n m) (hn : n ≤ 390000) : d.shown.length ≤ sizeLine := by
  have := PyData.shown_le 40 (by decide) d h.lf
  have e := h.wt
  rw [sizeLine_eq]
  omega
structure ShL (ds : List PyData) (n m : Nat) : Prop where
  sh : PyData.showableAll ds = true
  lf : PyData.leavesShortAll 40 ds = true
  dp : PyData.depthAll ds ≤ m
  wt : PyData.weightAll ds ≤ n
theorem ShL.nil {n m : Nat} : ShL [] n m := ⟨by simp only [PyData.showableAll], by simp only [PyData.leavesShortAll], by simp only [PyData.depthAll]; omega, by simp only [PyData.weightAll]; omega⟩
theorem ShL.cons {d : PyData} {ds : List PyData} {n k m : Nat} (h : Sh d n m) (r : ShL ds k m) : ShL (d :: ds) (n + 1 + k) m := by
  obtain ⟨a1, a2, a3, a4⟩ := h
  obtain ⟨b1, b2, b3, b4⟩ := r
  refine ⟨?_, ?_, ?_, ?_⟩
  · simp only [PyData.showableAll, a1, b1, Bool.and_self]
  · simp only [PyData.leavesShortAll, a2, b2, Bool.and_self]
  · simp only [PyData.depthAll]
    exact Nat.max_le.mpr ⟨a3, b3⟩
  · simp only [PyData.weightAll]
    omega
theorem ShL.mono {d : List PyData} {n m n' m' : Nat} (h : ShL d n m) (hn : n ≤ n') (hm : m ≤ m') : ShL d n' m' := ⟨h.sh, h.lf, Nat.le_trans h.dp hm, Nat.le_trans h.wt hn⟩
theorem ShL.of {n m : Nat} : ∀ {ds : List PyData}, (∀ d ∈ ds, Sh d n m) → ShL ds (ds.length * (n + 1)) m
  | [], _ => .nil
  | d :: ds, h => by
    have := ShL.cons (h d List.mem_cons_self) (ShL.of (ds := ds) fun x hx => h x (List.mem_cons_of_mem _ hx))
    refine this.mono ?_ (Nat.le_refl _)
    rw [List.length_cons, Nat.add_mul]
    omega
theorem Sh.list {ds : List PyData} {n m : Nat} (h : ShL ds n m) : Sh (.list ds) n (m + 1) :=
  ⟨by simp only [PyData.showable]; exact h.sh, by simp only [PyData.leavesShort]; exact h.lf, by simp only [PyData.depth]; have := h.dp; omega, by simp only [PyData.weight]; exact h.wt⟩
theorem Sh.tuple {ds : List PyData} {n m : Nat} (h : ShL ds n m) : Sh (.tuple ds) n (m + 1) :=
  ⟨by simp only [PyData.showable]; exact h.sh, by simp only [PyData.leavesShort]; exact h.lf, by simp only [PyData.depth]; have := h.dp; omega, by simp only [PyData.weight]; exact h.wt⟩
theorem Sh.none {n m : Nat} : Sh .none n m := ⟨by simp only [PyData.showable], by simp only [PyData.leavesShort], by simp only [PyData.depth]; omega, by simp only [PyData.weight]; omega⟩
theorem Sh.bool {b : Bool} {n m : Nat} : Sh (.bool b) n m := ⟨by simp only [PyData.showable], by simp only [PyData.leavesShort], by simp only [PyData.depth]; omega, by simp only [PyData.weight]; omega⟩
theorem log2_small {a k : Nat} (hk : 0 < k) (h : a < 2 ^ k) : a.log2 < k := by
  by_cases e : a = 0
  · subst e
    have : Nat.log2 0 = 0 := by decide
    omega
  · exact (Nat.log2_lt e).mpr h
theorem Sh.int {i : Int} {m : Nat} (h : i.natAbs < 10 ^ 30) : Sh (.int i) 200 m := by
  have hl : i.natAbs.log2 < 101 := log2_small (by decide) (Nat.lt_of_lt_of_le h (by decide))
  refine ⟨?_, ?_, by simp only [PyData.depth]; omega, ?_⟩
  · simp only [PyData.showable, decide_eq_true_eq]
    omega
  · have e := int_text_length_le10 (a := i) (k := 30) (by decide) h
    have e2 : (Str.ofString (toString i)).length ≤ 40 := by
      rw [PySem.ofString_length]
      omega
    simp only [PyData.leavesShort, PyData.shown]
    exact decide_eq_true e2
  · simp only [PyData.weight]
    split <;> omega
theorem Sh.str {x : Str} {n m : Nat} (h : ∀ c ∈ x.cps.toList, c < 16 ^ 8) (hl : x.length ≤ n) : Sh (.str x) n m := by
  refine ⟨by simp only [PyData.showable], ?_, by simp only [PyData.depth]; omega, by simp only [PyData.weight]; exact hl⟩
  simp only [PyData.leavesShort, List.all_eq_true, decide_eq_true_eq]
  exact h
theorem Sh.dict1 {k v : PyData} {n j m : Nat} (hk : Sh k j m) (hv : Sh v n m) : Sh (.dict [(k, v)]) (j + n + 2) (m + 1) := by
  obtain ⟨a1, a2, a3, a4⟩ := hk
  obtain ⟨b1, b2, b3, b4⟩ := hv
  refine ⟨?_, ?_, ?_, ?_⟩
  · simp only [PyData.showable, PyData.showableKv, a1, b1, Bool.and_self]
  · simp only [PyData.leavesShort, PyData.leavesShortKv, a2, b2, Bool.and_self]
  · simp only [PyData.depth, PyData.depthKv]
    have : max (max k.depth v.depth) 0 ≤ m := Nat.max_le.mpr ⟨Nat.max_le.mpr ⟨a3, b3⟩, Nat.zero_le _⟩
    omega
  · simp only [PyData.weight, PyData.weightKv]
    omega

section
variable {X : Cx} {pins : List (Addr × Obj)} {σ : L2.St} {H : Hp} {s : Shared}
theorem not_sys (I : Inv X pins σ H s) (hs : (X.K.lookup sysModules).isSome = true) {a : Addr} {o : HO} (h : H a = some o) : a ≠ sysModules := by
  intro e
  obtain ⟨ob, hk⟩ := Option.isSome_iff_exists.mp hs
  have z := (I.bs sysModules ob (I.mod.kin _ _ hk)).2
  rw [← e, h] at z
  cases z
theorem pairs_keys {P : Program} {w : World} {h : Heap} : ∀ {es : List DictEntry} {vs : List (Key × Value)}, Pairs (mixKind P w) es vs → ReadsAll h (es.map (·.key)) (vs.map fun q => kD q.1) []
  | _, _, .nil => .nil
  | _, _, .cons (e := e) (kv := kv) hk _ r => by
    have rr := pairs_keys (h := h) r
    rcases keyIs_shape (show keyIs kv.1 e.key = true from hk) with ⟨i, t, e1, e2⟩ | ⟨x, t, e1, e2⟩
    · simp only [List.map_cons, e1, e2, kD]
      exact .cons (as := []) (bs := []) (.int i t) rr
    · simp only [List.map_cons, e1, e2, kD]
      exact .cons (as := []) (bs := []) (.str x t) rr
theorem pairs_vals {P : Program} {w : World} : ∀ {es : List DictEntry} {vs : List (Key × Value)}, Pairs (mixKind P w) es vs → es.map (·.val) = vs.map (·.2)
  | _, _, .nil => rfl
  | _, _, .cons _ hv r => by
    rw [List.map_cons, List.map_cons, hv, pairs_vals r]
theorem kv_keys : ∀ {kvs : List (Key × V)} {vs : List (Key × Value)}, KV kvs vs → kvs.map (fun q => kD q.1) = vs.map fun q => kD q.1
  | _, _, .nil => rfl
  | _, _, .cons h r => by rw [List.map_cons, List.map_cons, h.1, kv_keys r]
theorem kv_vals : ∀ {kvs : List (Key × V)} {vs : List (Key × Value)}, KV kvs vs → Vals (kvs.map (·.2)) (vs.map (·.2))
  | _, _, .nil => .nil
  | _, _, .cons h r => .cons h.2 (kv_vals r)
mutual
theorem Rv.reads (I : Inv X pins σ H s) (hs : (X.K.lookup sysModules).isSome = true) : ∀ {v : V} {d : PyData} {u : Value}, Rv H v d → RelV v u → ∃ as, Reads s.heap u d as ∧ sysModules ∉ as
  | _, _, _, .non, r => by cases r; exact ⟨[], .none, by simp⟩
  | _, _, _, .bl b, r => by cases r; exact ⟨[], .bool b, by simp⟩
  | _, _, _, .int i, r => by obtain ⟨t, rfl⟩ := r; exact ⟨[], .int i t, by simp⟩
  | _, _, _, .str x, r => by obtain ⟨t, rfl⟩ := r; exact ⟨[], .str x t, by simp⟩
  | _, _, _, .lst (a := a) h q, r => by
    cases r
    obtain ⟨_, its, n, rv, e⟩ := I.hok a _ h
    obtain ⟨as, ra, hn⟩ := RvL.reads I hs q rv
    refine ⟨a :: as, .list e rfl rfl (by simpa using ra), fun hm => ?_⟩
    rcases List.mem_cons.mp hm with z | z
    · exact not_sys I hs h z.symm
    · exact hn z
  | _, _, _, .tup (a := a) h q, r => by
    cases r
    obtain ⟨_, its, rv, o, e, hc, n, hd⟩ := I.hok a _ h
    obtain ⟨as, ra, hn⟩ := RvL.reads I hs q rv
    exact ⟨as, .tuple e hc hd (by simpa using ra), hn⟩
  | _, _, _, .dK (a := a) (kvs := kvs) (ps := ps) h k q, r => by
    cases r
    obtain ⟨_, _, vs, kv, o, es, ep, e, hx, hd, _, pr, _⟩ := I.hok a _ h
    obtain ⟨as, ra, hn⟩ := RvL.reads I hs q (kv_vals kv)
    have rk : ReadsAll s.heap (es.toList.map (·.key)) (ps.map (·.1)) [] := by
      rw [k, kv_keys kv]
      exact pairs_keys pr
    have rv : ReadsAll s.heap (es.toList.map (·.val)) (ps.map (·.2)) as := by
      rw [pairs_vals pr]
      exact ra
    refine ⟨a :: [] ++ as, .dict e hx.1 hd rk rv, fun hm => ?_⟩
    rcases List.mem_cons.mp hm with z | z
    · exact not_sys I hs h z.symm
    · exact hn z
theorem RvL.reads (I : Inv X pins σ H s) (hs : (X.K.lookup sysModules).isSome = true) : ∀ {vs : List V} {ds : List PyData} {us : List Value}, RvL H vs ds → Vals vs us → ∃ as, ReadsAll s.heap us ds as ∧ sysModules ∉ as
  | _, _, _, .nil, r => by cases r; exact ⟨[], .nil, by simp⟩
  | _, _, _, .cons h q, r => by
    cases r with
    | cons r1 r2 =>
      obtain ⟨as, ra, ha⟩ := Rv.reads I hs h r1
      obtain ⟨bs, rb, hb⟩ := RvL.reads I hs q r2
      exact ⟨as ++ bs, .cons ra rb, fun hm => (List.mem_append.mp hm).elim ha hb⟩
end
end
/-- repr(x) -/
def rRepr : List V → Hp → VK → Prop := fun xs H Q => ∃ (v : V) (d : PyData), xs = [v] ∧ Rv H v d ∧ Sh d 390000 40 ∧ Q (.str d.shown) H
theorem call_repr {X : Cx} {k : Nat} (hr : Room k X.A) (hg : X.A.guards = some []) (hs : (X.K.lookup sysModules).isSome = true) : CallR X (.builtin "repr") rRepr := by
  intro pins s σ H xs us Q I r h
  obtain ⟨v, d, rfl, rv, sh, q⟩ := h
  obtain ⟨u, rfl, ru⟩ := vals1 r
  have hz := sh.len (Nat.le_refl _)
  have hu := hr.units
  have key : ∀ {a : Addr}, v = .ref a → wpAny (model X.prog X.w) X.A (call (.builtin "repr") [u]) (EP X pins σ Q) X.xe s := by
    intro a e
    obtain ⟨as, ra, hn⟩ := Rv.reads I hs rv ru
    subst e
    cases ru
    have hd := sh.dp
    exact repr_of_reads' ra sh.sh (fun _ => hn) hg (by omega) (fun _ _ z => z) (fun h' u tk hk => ⟨.str d.shown, H, I.kept hk, ⟨u, rfl⟩, q⟩) hz
  cases rv with
  | non =>
    cases ru
    exact PySem.P.repr_of_none ⟨.str _, H, I.tok _, ⟨_, rfl⟩, by simpa only [PyData.shown] using q⟩
  | bl b =>
    cases ru
    exact PySem.P.repr_of_bool ⟨.str _, H, I.tok _, ⟨_, rfl⟩, by simpa only [PyData.shown] using q⟩
  | int i =>
    obtain ⟨t, rfl⟩ := ru
    have hi := sh.sh
    simp only [PyData.showable, decide_eq_true_eq] at hi
    exact PySem.P.repr_of_int hi ⟨.str _, H, I.tok _, ⟨_, rfl⟩, by simpa only [PyData.shown] using q⟩
  | str x =>
    obtain ⟨t, rfl⟩ := ru
    exact PySem.P.repr_of_str ⟨.str _, H, I.tok _, ⟨_, rfl⟩, by simpa only [PyData.shown] using q⟩ (by simpa only [PyData.shown] using hz)
  | lst h r => exact key rfl
  | tup h r => exact key rfl
  | dK h k r => exact key rfl
end SL
set_option maxHeartbeats 4000000
/-! the errors: a class over ValueError whose __init__ says super().__init__(value) and keeps the value, and the classes below it -/
namespace SL
open PySem PySem.Spec PyProof.Rows L2
/-- the two statements of __init__ -/
def erB (p0 p1 p2 p3 p4 p5 p6 p7 p8 p9 : Pos) : List Stmt := [
  .Expr (.Call (.Attribute (.Call (.Name "super" p0) [] [] p1) "__init__" p2) [.Name "value" p3] [] p4) p5,
  .Assign [.Attribute (.Name "self" p6) "value" p7] (.Name "value" p8) p9]
def erA (q1 q2 : Pos) : Arguments := { posonlyargs := [], args := [{ arg := "self", annotation := none, pos := q1 }, { arg := "value", annotation := none, pos := q2 }], vararg := none, kwonlyargs := [], kw_defaults := [], kwarg := none, defaults := [] }
def erS : Scope := { kind := .function, names := [("self", .local), ("value", .local), ("__class__", .free), ("super", .globalImplicit)], isGenerator := false, isCoroutine := false, more := [] }
/-- what the written part says of the __init__ at fI: cc its cell, D the class that it names -/
structure IniT (P : Program) (K : PySem.W.Frag) (D fI : Addr) (fd : FuncData) : Prop where
  fn : ∃ (oc : Value) (od : Option Addr) (dV kV doc pm : Value) (an : Option Addr) (cda : Addr) (ct : Value) (osl : Array (Option Value)) (cc : Addr) (q1 q2 p0 p1 p2 p3 p4 p5 p6 p7 p8 p9 : Pos),
    fd = PySem.W.ksFn "__init__" "LabelError.__init__" (erA q1 q2) (erB p0 p1 p2 p3 p4 p5 p6 p7 p8 p9) erS dV kV doc pm an (.ref cda) ct cc ∧
    (p2.endLine == p4.line) = true ∧ K.lookup fI = some ⟨oc, od, .func fd, osl⟩ ∧ PySem.W.codeIn K (.ref cda) "LabelError.__init__" = true ∧
    (∃ ccl cdd vs ccs file tf, K.lookup cda = some ⟨ccl, cdd, .fields vs, ccs⟩ ∧ vs[2]? = some (.str file tf) ∧ ((P.main.file : Str) == file) = true) ∧
    (∃ cl cld csl, K.lookup cc = some ⟨cl, cld, .cell (some (.ref D)), csl⟩)
  clD : (PySem.W.clsIn K D).isSome = true
  noS : (P.main.scope.names.lookup ("super" : Str)).isSome = false
  tp : PySem.W.nsIn K cStatics "thirdparty.any" = some none
/-- .. of an error's class C -/
structure ErrC (K : PySem.W.Frag) (D fI C : Addr) : Prop where
  cls : ∃ nm q N bs bm sn sub ab col dd k0 k1 k2 k3 k5, K.lookup C = some (excClassObj nm q C N bs bm true sn sub ab col dd k0 k1 k2 k3 k5 "ValueError.__new__") ∧ PySem.HandSPX.refsVE bm = true
  sa : PySem.W.findIn K (.ref C) "__setattr__" = some (some (.builtin "object.__setattr__"))
  ga : PySem.W.findIn K (.ref C) "__getattribute__" = some (some (.builtin "BaseException.__getattribute__"))
  gg : PySem.W.findIn K (.ref C) "__getattr__" = some none
  noV : PySem.W.findIn K (.ref C) "value" = some none
  iC : PySem.W.findIn K (.ref C) "__init__" = some (some (.ref fI))
  tI : PySem.W.typeIn K (.ref fI) = some (.type "function")
  kC : PySem.W.keepIn K (.ref C) = true
  exC : PySem.W.subIn K (.ref C) (.type "BaseException") = some true
  vaC : PySem.W.subIn K (.ref C) (.type "ValueError") = some true
  tyC : PySem.W.typeIn K (.ref C) = some (.type "type")
  hdC : PySem.W.hasDictIn K C = true
  mD : PySem.W.mroIn K C (.ref D) = some true
  sup : PySem.W.ks_superIn K C D "__init__" = some (some (.builtin "ValueError.__init__"))
  cl : PySem.W.findIn K (.ref C) "__class__" = some (some (.builtin "object.__class__"))
  sp : PySem.W.specialIn K (.builtin "object.__class__") "__get__" = some (some (.builtin "getset_descriptor.__get__"))
  tk : PySem.W.takesIn K (.builtin "object.__class__") = some true
  ob : PySem.W.mroIn K C (.type "object") = some true
/-- what __init__ leaves of a fresh exception at x -/
structure ErEnd (h h' : Heap) (x C dx t1 : Addr) (v : Value) : Prop where
  keep : ∀ b o, b ≠ x → h.get? b = some o → h'.get? b = some o
  obj : h'.get? x = some { cls := .ref C, dict := some dx, data := .fields #[.ref t1, .none, .none, .none, .bool false, .none] }
  dbig : h.objs.size ≤ dx
  dne : dx ≠ x
  ns : h'.Ns1 dx (fun y => if y = "value" then some v else none)
section
open PySem.W PySem.Calls PySem.HandSPX
variable {prog : Program} {w : World} {A : Around} {E : Value → Shared → Prop} {R : Result → Shared → Prop} {s : Shared} {K : Frag} {mg mb : Str → Option Value} {C D fI : Addr} {fd : FuncData}
theorem er_nocell : ∀ x ∈ erS.names, x.2 ≠ NameKind.cell := by decide
theorem er_lo : erS.names.lookup ("self" : Str) = some NameKind.local ∧ erS.names.lookup ("value" : Str) = some NameKind.local := by decide
abbrev er_pl (p0 p1 : Pos) (env : Env) : Sem Bool := do return (← importBound (.Call (.Name "super" p0) [] [] p1) env).getD true
theorem er_eval {p0 p1 p2 p3 p4 : Pos} (env : Env) (h : (p2.endLine == p4.line) = true) :
    eval (.Call (.Attribute (.Call (.Name "super" p0) [] [] p1) "__init__" p2) [.Name "value" p3] [] p4) env = (do
      let ov ← attributeBase (.Call (.Name "super" p0) [] [] p1) "__init__" env (eval (.Call (.Name "super" p0) [] [] p1) env)
      standAt p2.atName
      let (f, first) ← holding [ov] (getMethod ov "__init__" (er_pl p0 p1 env))
      callWith p4 f first (backTo p4 (starEach [.Name "value" p3] env)) []) := by
  show (do
      let ov ← attributeBase (.Call (.Name "super" p0) [] [] p1) "__init__" env (eval (.Call (.Name "super" p0) [] [] p1) env)
      standAt p2.atName
      let (f, first) ← holding [ov] (getMethod ov "__init__" (er_pl p0 p1 env))
      let cp ← methodCallPos true (.Call (.Name "super" p0) [] [] p1) env p2 p4
      callWith cp f first (backTo p4 (starEach [.Name "value" p3] env)) []) = _
  have e : methodCallPos true (.Call (.Name "super" p0) [] [] p1) env p2 p4 = pure p4 := by
    unfold methodCallPos
    rw [h]
    rfl
  rw [e]
  rfl
theorem boot_super : bootBuiltins "super" = some (.type "super") := by decide +kernel
/-- super().__init__(v), the bound built-in called -/
theorem er_base (T : ErrC K D fI C) {h : Heap} {g : Array GenState} {d : Drawn} {t : Nat} {os : OsState} {u x t0 : Addr} {v : Value} {Q : Value → Shared → Prop}
    (X : K.In h) (hx : h.get? x = some (excO C t0)) (hu : h.get? u = some (kxs_mw "ValueError.__init__" x))
    (hq : ∀ h' t1, (∀ b o, b ≠ x → h.get? b = some o → h'.get? b = some o) → h'.get? x = some (excO C t1) → Q .none ⟨h', g, d, t, os⟩) :
    wpAny (model prog w) A (call (.ref u) [v]) Q E ⟨h, g, d, t, os⟩ := by
  obtain ⟨nm, q, N, bs, bm, sn, sub, ab, col, dd, k0, k1, k2, k3, k5, hC, hbm⟩ := T.cls
  refine wpAny_call (codeAny_of_tree ?_)
  show wpAny _ A.in1 (callAny (.ref u) ⟨[v], []⟩) _ _ _
  simp only [callAny]
  refine wpAny_bind (wpAny_load hu ?_)
  have e1 : (Value.type "method-wrapper" == Value.type "method" || Value.type "method-wrapper" == Value.type "builtin_function_or_method" || Value.type "method-wrapper" == Value.type "method-wrapper") = true := by decide
  simp only [kxs_mw, e1, if_true]
  refine KFB.if_so (by decide) ?_
  refine wpAny_bind (check_bound_init F.excBase_ValueError.toExcCallFacts (X _ _ hC) hx rfl ?_)
  refine wpAny_bind (wpAny_pure (wpAny_pure ?_))
  refine ⟨plainId_quiet F.excBase_ValueError.init.plain _, codeAny_builtin F.excBase_ValueError.initEntry ?_⟩
  refine exc_init_tree (cls := .ref C) (t0 := t0) (dv := none) (c2 := .none) (c3 := .none) (b4 := .bool false) hx (by rw [sizeLine_eq]; exact (by decide : 1 ≤ 16777216)) fun h' k e' _ => ?_
  exact hq h' _ k e'
theorem er_init (I0 : IniT prog K D fI fd) (T : ErrC K D fI C) {x t0 : Addr} {v : Value} {args : Args} (X : K.In s.heap)
    (hn : s.heap.Ns mainGlobals mg) (hb : s.heap.Ns builtinsNs mb) (hsu : mg "super" = none) (hbs : mb "super" = some (.type "super"))
    (hlim : s.heap.NoLimit) (hx : s.heap.get? x = some (excO C t0)) (hnx : K.lookup x = none) (hroom : A.depth < recursionLimit)
    (hbind : BindsTo s fd args [("self", .ref x), ("value", v)])
    (hq : ∀ h' tk dx t1, ErEnd s.heap h' x C dx t1 v → R (.ok (.ret .none)) { s with heap := h', toks := tk }) :
    codeAny (model prog w) A (.call (.ref fI) args) R s := by
  obtain ⟨oc, od, dV, kV, doc, pm, an, cda, ct, osl, cc, q1, q2, p0, p1, p2, p3, p4, p5, p6, p7, p8, p9, efd, hpos, lk, hcd, ⟨ccl, cdd, vs, ccs, file, tf, lc, hvs, hfile⟩, ⟨cl, cld, csl, lcell⟩⟩ := I0.fn
  obtain ⟨nm, q, N, bs, bm, sn, sub, ab, col, dd, k0, k1, k2, k3, k5, hC, hbm⟩ := T.cls
  have hcl : clsIn K C = some { name := nm, bases := bs, mro := .ref C :: bm, ns := N, qualname := q, hasDict := true, slotNames := sn, subclasses := sub, abstract := ab, collection := col, hasDel := false } := by
    unfold clsIn
    rw [hC] <;> rfl
  have hsup := T.sup
  subst efd
  refine ks_codeAny_call_defAt (body := erB p0 p1 p2 p3 p4 p5 p6 p7 p8 p9) hroom (X _ _ lk) rfl hlim (codeRec_of X hcd) rfl hbind er_nocell (by intro y hy; simp only [List.mem_cons, List.not_mem_nil, or_false] at hy; rcases hy with rfl | rfl; exact er_lo.1; exact er_lo.2) (fun h₁ hns hk₁ => ?_)
  have X₁ : K.In h₁ := X.keeps hk₁
  have hx₁ := hk₁ _ _ hx
  have I₁ : InstAt h₁ x (excO C t0) C none := ⟨hx₁, rfl, rfl, trivial⟩
  obtain ⟨oD, hD1, cdD, hD2⟩ : ∃ oD, h₁.get? D = some oD ∧ ∃ cdD, oD.data = .cls cdD := by
    obtain ⟨cdD, hD⟩ := Option.isSome_iff_exists.mp I0.clD
    unfold clsIn at hD
    split at hD
    · rename_i c d cd' sl ho
      exact ⟨_, X₁ _ _ ho, _, rfl⟩
    · cases hD
  have hval : List.lookup ("value" : Str) ([("self", Value.ref x), ("value", v)] : List (Str × Value)).reverse = some v := by
    show List.lookup ("value" : Str) [(("value" : Str), v), (("self" : Str), Value.ref x)] = some v
    simp [List.lookup]
  have nvs : (("self" : Str) == ("value" : Str)) = false := by decide
  have hself : List.lookup ("self" : Str) ([("self", Value.ref x), ("value", v)] : List (Str × Value)).reverse = some (Value.ref x) := by
    show List.lookup ("self" : Str) [(("value" : Str), v), (("self" : Str), Value.ref x)] = some (Value.ref x)
    simp [List.lookup, nvs]
  refine ks_wpAt_execs_cons (ks_wpAt_Expr_any (ks_wpAt_MethodCall (pl := er_pl p0 p1 _) (he := er_eval _ hpos) (ks_wpAt_super_base (f := fI) (cc := cda) rfl rfl (by decide) rfl (X₁ _ _ lk) rfl rfl rfl (X₁ _ _ lc) rfl hvs hfile I0.noS ?_)))
  refine ks_loadName_global rfl rfl (loadGlobal_builtin (hn.keeps hk₁) hsu (hb.keeps hk₁) hbs ⟨rfl, ?_⟩)
  refine wpAny_loadName_free rfl rfl rfl ⟨_, X₁ _ _ lcell, rfl⟩ ?_
  refine wpAny_loadName_local rfl rfl hns hself ?_
  refine ks_wpAny_isType_cls hD1 hD2 ⟨rfl, ?_⟩
  refine ks_wpAny_call_super hD1 hD2 hx₁ rfl (fun c e => by cases e) (looks_mroIn X₁ T.mD) (fun h₂ so2 k₂ => ?_)
  have X₂ : K.In h₂ := X₁.keeps k₂
  have hI : Looks (model prog w) h₂ (isInstance (.ref x) (.type "ValueError")) true := (InstAt.type (od := none) ⟨k₂ _ _ hx₁, rfl, rfl, trivial⟩).andThen (looks_subIn X₂ T.vaC)
  unfold ks_superIn at hsup
  rw [hcl] at hsup
  refine kxs_getMethod kxs_ValueError so2 (looks_opaque X₂ I0.tp) (l₀ := .ref C :: bm) ?_ rfl X₂ hsup hI (ks_ne X₁ I₁ hcl) (by decide) ?_
  · exact fun A Q E s k q => wpAny_bind ((looks_clsIn X₂ hcl) A _ E s k (wpAny_pure q))
  · have hm3 : (h₂.push (kxs_mw "ValueError.__init__" x)).get? h₂.objs.size = some (kxs_mw "ValueError.__init__" x) := Heap.get?_push_at rfl rfl
    have k3 : ∀ b o, h₁.get? b = some o → (h₂.push (kxs_mw "ValueError.__init__" x)).get? b = some o := fun b o e => Heap.get?_push_of_some _ (k₂ _ _ e)
    refine kxs_callWith (i := "ValueError.__init__") (x := x) rfl ?_
    refine evalArgs_plain (Calls.spliced_cons ?_)
    refine ESX.ldL (hns.keeps k3) hval ?_
    refine Calls.spliced_nil ⟨hm3, ?_⟩
    show wpAny _ _ (call (.ref h₂.objs.size) [v]) _ _ _
    refine er_base T (X₁.keeps k3) (k3 _ _ hx₁) hm3 fun h₄ t1 k₄ hx₄ => ?_
    have k4 : ∀ b o, b ≠ x → h₁.get? b = some o → h₄.get? b = some o := fun b o hb e => k₄ b o hb (k3 b o e)
    have X₄ : K.In h₄ := fun b o e => k4 b o (fun z => by rw [z, hnx] at e; cases e) (X₁ b o e)
    have hL : s.heap.objs.size ≠ x := Nat.ne_of_gt (Heap.lt_size hx)
    have hns₄ : h₄.Ns s.heap.objs.size (fun y => List.lookup y ([("self", Value.ref x), ("value", v)] : List (Str × Value)).reverse) := by
      obtain ⟨o, es, ep, ho, r⟩ := hns
      exact ⟨o, es, ep, k4 _ _ hL ho, r⟩
    refine wpAt_of_wpAny ?_
    refine wpAny_execs_cons (plainObj_wpAny_Assign_Attribute ?_)
    refine ESX.ldL hns₄ hval (ESX.ldL hns₄ hself ?_)
    refine set_plain X₄ (ox := excO C t1) (od := none) ⟨hx₄, rfl, rfl, trivial⟩ T.sa ?_
    refine exc_osa X₄ hx₄ hcl (show refsVE (.ref C :: bm) = true from hbm) rfl T.noV (fun h₅ tk₅ dx k₅ dn dne hx₅ hn₅ => ?_)
    have hlt : s.heap.objs.size < h₄.objs.size := hns₄.lt
    refine wpAny_execs_nil (hq h₅ tk₅ dx t1 ⟨fun b o hb e => k₅ b o hb (k4 b o hb (hk₁ b o e)), hx₅, Nat.le_of_lt (Nat.lt_of_lt_of_le hlt dn), dne, hn₅⟩)
end
end SL
set_option maxHeartbeats 4000000
namespace SL
open PySem PySem.Spec PyProof.Rows L2
/-- what an error's __init__ does -/
def spIni (K : PySem.W.Frag) (D fI : Addr) : Sp := fun vs H Q _ => ∃ (a C : Addr) (v : V), vs = [.ref a, v] ∧ ErrC K D fI C ∧ H a = some (exo a C none) ∧
  ∀ dx, H dx = none → dx ≠ a → Q .non (upd (upd H dx (exd dx [("value", v)])) a (exo a C (some dx)))
theorem ok_ini {P : Program} {w : World} {K : PySem.W.Frag} {mg : Str → Option Value} {base : Heap} {D fI : Addr} {fd : FuncData} (I0 : IniT P K D fI fd) (hsu : mg "super" = none) :
    FnOk P w K mg base CX0 1 fI fd ["self", "value"] (spIni K D fI) := by
  refine ⟨fun vs H Q E h => ?_, fun A outer s H args us vs Q E hr e0 hb r hsp => ?_⟩
  · obtain ⟨a, C, v, rfl, _⟩ := h
    rfl
  · obtain ⟨a, C, v, rfl, T, ha, hq⟩ := hsp
    obtain ⟨u1, u, rfl, r1, ru⟩ := vals2 r
    cases r1
    obtain ⟨t0, hx⟩ := exo_at e0.hok ha
    have bk : ∀ b o, base.get? b = some o → s.heap.get? b = some o := fun b o e => (e0.bs b o e).1
    obtain ⟨mb, hb1, hb2⟩ := e0.mod.blt
    have hnx : K.lookup a = none := by
      cases e : K.lookup a with
      | none => rfl
      | some o =>
        have z := (e0.bs a o (e0.mod.kin a o e)).2
        rw [ha] at z
        cases z
    have hd := hr.depth
    refine er_init I0 T (e0.mod.kin.keeps bk) (e0.mod.glob.keeps bk) (hb1.keeps bk) hsu ((hb2 _ (by decide)).trans boot_super) (e0.mod.nolimit.keeps bk) hx hnx hd hb ?_
    intro h' tk dx t1 fin
    obtain ⟨hh, g, dd, tt, os⟩ := s
    have hnd : H dx = none := e0.hok.fresh fin.dbig
    have na : ∀ {b : Addr}, H b = none → b ≠ a := fun {b} n z => by
      rw [z, ha] at n
      cases n
    have nd : ∀ {b : Addr} {o : Obj}, hh.get? b = some o → b ≠ dx := fun {b o} q => Nat.ne_of_lt (Nat.lt_of_lt_of_le (Heap.lt_size q) fin.dbig)
    refine ⟨.non, _, rfl, e0.bare, ?_, ?_, rfl, hq dx hnd fin.dne⟩
    · refine ⟨fun b o q n _ _ => fin.keep b o (na n) q, fun b o q n _ _ => ⟨o.slots, fin.keep b o (na n) q⟩, fun b o q n _ => ?_, fun b o q _ => ?_, fun b xs q => ?_, fun b o v q => ?_, fun b ps q => ⟨#[], ?_⟩⟩
      · rw [upd_ne (na n), upd_ne (nd q)]
        exact n
      · by_cases hba : b = a
        · exact ⟨_, by rw [hba]; exact fin.obj⟩
        · exact ⟨o, fin.keep b o hba q⟩
      · rw [upd_ne (at_ne ha q exo_tup), upd_ne (ne_of_none q hnd)]
        exact q
      · rw [upd_ne (at_ne ha q exo_frz), upd_ne (ne_of_none q hnd)]
        exact q
      · rw [upd_ne (at_ne ha q exo_tbl), upd_ne (ne_of_none q hnd), q]
        simp
    · intro b o q
      by_cases hba : b = a
      · subst hba
        rw [upd_same] at q
        cases q
        exact exo_ok fin.obj
      · rw [upd_ne hba] at q
        by_cases hbd : b = dx
        · subst hbd
          rw [upd_same] at q
          cases q
          exact exd_ok fin.ns (relO_put (fs := []) ru fun g => True.intro)
        · rw [upd_ne hbd] at q
          refine (e0.hok b o q).stay (fun c v hc z => fin.keep c v ?_ z) (fun c hc => ?_) (fun c xs hc => ?_)
          · rcases hc with hc | hc
            · rw [hc]
              exact hba
            · exact at_ne ha hc exo_own
          · rw [upd_ne (at_ne ha hc exo_own), upd_ne (ne_of_none hc hnd)]
            exact hc
          · rw [upd_ne (at_ne ha hc exo_tup), upd_ne (ne_of_none hc hnd)]
            exact hc
/-- what the written part says of an error's class, for HandS.ExcInit -/
theorem ErrC.oex {K : PySem.W.Frag} {D fI C : Addr} (T : ErrC K D fI C) : OexC K C := ⟨T.cls, T.sa, T.exC, T.tyC, T.kC⟩
/-- C(e) as a value -/
def tErr (C : Addr) (te : TE) : TE := fun σ H Q => te σ H fun v H1 => ∀ a d, H1 a = none → H1 d = none → d ≠ a → Q (.ref a) (upd (upd H1 d (exd d [("value", v)])) a (exo a C (some d)))
section
variable {X : Cx} {D fI C : Addr} {fd : FuncData} {x : Str} {p pos : Pos} {e : Expr} {te : TE}
theorem pe_err (I0 : IniT X.prog X.K D fI fd) (hsu : X.mg "super" = none) (T : ErrC X.K D fI C) (b : Binds X.K fd ["self", "value"] []) {k : Nat} (hr : Room k X.A) (hk2 : 2 ≤ k) (hg : Gl X x) (hm : X.mg x = some (.ref C)) (he : PE X e te)
    (hdb : (x == ("__debug__" : Str)) = false := by decide) (hs : starEach [e] X.env = (false, eval e X.env) :: starEach [] X.env := by rfl) :
    PE X (.Call (.Name x p) [e] [] pos) (tErr C te) := by
  refine ⟨fun pins s σ H Q I h => ?_⟩
  have F1 : FnOk X.prog X.w X.K X.mg X.base CX0 1 fI fd ["self", "value"] (spIni X.K D fI) := ok_ini I0 hsu
  obtain ⟨nm, q, N, bs, bm, sn, sub, ab, col, dd, k0, k1, k2, k3, k5, hC, hbm⟩ := T.cls
  refine wpAny_Call_Name_kw (ld_glob I hg hm ?_ hdb)
  refine PySem.W.callWith_K (h₀ := X.base) I.ok.mod.kin T.kC ?_ hs (by rfl)
  rw [hs]
  show wpAny _ _ (spliced ((false, eval e X.env) :: backTo pos (starEach [] X.env))) _ _ s
  refine Calls.spliced_cons (thn (he.run pins s σ H _ I h) fun u s1 ⟨v, H1, I1, r1, q1⟩ => ?_)
  refine Calls.spliced_nil ⟨I1.kIn, ?_⟩
  show wpAny _ _ (call (.ref C) [u]) _ _ _
  obtain ⟨hp, g, dr, tk, os⟩ := s1
  let A0 : Addr := hp.objs.size + 1
  have hsz : hp.objs.size ≤ A0 := Nat.le_succ _
  have hn : H1 A0 = none := I1.hok.fresh hsz
  have kk : ∀ b o, hp.get? b = some o → ((hp.push (PySem.W.kdv_tup [u])).push (PySem.HandSPX.excO C hp.objs.size)).get? b = some o := fun b o e => Heap.get?_push_of_some _ (Heap.get?_push_of_some _ e)
  have hget : ((hp.push (PySem.W.kdv_tup [u])).push (PySem.HandSPX.excO C hp.objs.size)).get? A0 = some (PySem.HandSPX.excO C hp.objs.size) := by
    show Heap.get? _ (hp.objs.size + 1) = _
    heap_get
  have I2 : Inv X pins σ (upd H1 A0 (exo A0 C none)) ⟨(hp.push (PySem.W.kdv_tup [u])).push (PySem.HandSPX.excO C hp.objs.size), g, dr, tk, os⟩ :=
    I1.laid (t' := tk) (a := A0) (o := exo A0 C none) kk hsz (exo_ok hget)
  have hsp : spIni X.K D fI [.ref A0, v] (upd H1 A0 (exo A0 C none)) (fun v' H2 => v' = .non ∧ Q (.ref A0) H2) (fun _ _ _ => False) := by
    refine ⟨A0, C, v, rfl, T, upd_same, fun dx hd hne => ⟨rfl, ?_⟩⟩
    have hd1 : H1 dx = none := by rw [upd_ne hne] at hd; exact hd
    have z := q1 A0 dx hn hd1 hne
    have e1 : upd (upd (upd H1 A0 (exo A0 C none)) dx (exd dx [("value", v)])) A0 (exo A0 C (some dx)) = upd (upd H1 dx (exd dx [("value", v)])) A0 (exo A0 C (some dx)) := by
      funext b
      by_cases hb : b = A0
      · rw [hb, upd_same, upd_same]
      · rw [upd_ne hb, upd_ne hb]
        by_cases hb2 : b = dx
        · rw [hb2, upd_same, upd_same]
        · rw [upd_ne hb2, upd_ne hb2, upd_ne hb]
    rw [e1]
    exact z
  have hr2 : Room 2 X.A := hr.mono hk2
  refine wpAny_call (PySem.HandSPX.call_own F.excBase_ValueError (fun Y => PySem.HandSPX.refsVE_contains Y bm hbm) (I1.kIn _ _ hC) (PySem.W.looks_findIn I1.kIn T.iC) (fun self => PySem.W.bind_fn I1.kIn self T.tI) (by rw [sizeLine_eq]; exact (by decide : 1 ≤ 16777216))
    (codeAny_mono (F1.run _ X.stack _ _ ⟨[Value.ref A0, u], []⟩ [Value.ref A0, u] [V.ref A0, v] _ (fun _ _ _ => False) (hr2.make C [u] []) (I2.env0.make C [u] []) (b _ [Value.ref A0, u] I2.kIn rfl) (.cons rfl (.cons r1 .nil)) hsp) fun r s' hq' => ?_))
  cases r with
  | error er => exact hq'.elim
  | ok fl => cases fl with
    | ret u' =>
      obtain ⟨v', H2, os2, bare2, un2, hok2, rv, ev, qq⟩ := hq'
      subst ev
      obtain ⟨h2, g2, d2, t2, os'⟩ := s'
      refine ⟨rv, .ref A0, H2, ?_, rfl, qq⟩
      exact I2.call' (ch := []) os2 un2 hok2 bare2 (fun b z => absurd z (by simp))
    | next => exact hq'.elim
    | brk => exact hq'.elim
    | cont => exact hq'.elim
end
end SL
set_option maxHeartbeats 4000000
namespace SL
open PySem PySem.Spec PySem.HandSPX
section
variable {M : Model} {A : Around} {E : Value → Shared → Prop} {h : Heap} {g : Array GenState} {d : Drawn} {t : Nat} {os : OsState}
variable {nm q : Str} {C N : Addr} {bs bm : List Value} {hdct : Bool} {sn : List Str} {sub : List Value} {ab : Bool} {col : Option Bool} {dd : Option Addr} {k0 k1 k2 k3 k5 : Option Value}
abbrev ecO (nm q : Str) (C N : Addr) (bs bm : List Value) (hdct : Bool) (sn : List Str) (sub : List Value) (ab : Bool) (col : Option Bool) (dd : Option Addr) (k0 k1 k2 k3 k5 : Option Value) : Obj :=
  excClassObj nm q C N bs bm hdct sn sub ab col dd k0 k1 k2 k3 k5 "ValueError.__new__"
theorem chk_new_kw (hbm : refsVE bm = true) {kw : List (Str × Value)} {Q : Unit → Shared → Prop}
    (hC : h.get? C = some (ecO nm q C N bs bm hdct sn sub ab col dd k0 k1 k2 k3 k5)) (hq : Q () ⟨h, g, d, t, os⟩) :
    wpAny M A (checkBuiltinCall "ValueError.__new__" ⟨[.ref C], kw⟩) Q E ⟨h, g, d, t, os⟩ := by
  have F := F.excBase_ValueError
  have hT := fun Y : String => refsVE_contains Y bm hbm
  have hcont : (Value.ref C :: bm).contains (.type "ValueError") = true := by
    rw [List.contains_cons, hT, F.hasB, Bool.or_true]
  have hstar := F.noStar
  simp only [checkBuiltinCall, F.newKind, F.newSplit, F.newRow]
  repeat (first
    | refine wpAny_loadPart_at hC ?_
    | (refine wpAny_isSubtype_exc hC ?_; rw [hcont])
    | refine wpAny_staticBase_exc hC ?_
    | refine wpAny_madeBy_exc hC ?_
    | simp only [bne_self_eq_false, Bool.false_eq_true, if_false]
    | wp_step)
  all_goals exact hq
end
section
variable {prog : Program} {w : World} {A : Around} {E : Value → Shared → Prop} {R : Result → Shared → Prop} {h : Heap} {g : Array GenState} {d : Drawn} {t : Nat} {os : OsState}
variable {nm q : Str} {C N : Addr} {bs bm : List Value} {hdct : Bool} {sn : List Str} {sub : List Value} {ab : Bool} {col : Option Bool} {dd : Option Addr} {k0 k1 k2 k3 k5 : Option Value}
/-- the heap behind BaseException.__new__ without arguments -/
abbrev nuH (h : Heap) (C : Addr) : Heap := (h.push (W.kdv_tup [])).push (excO C h.objs.size)
theorem new_kw (hbm : refsVE bm = true) {kw : List (Str × Value)} (hC : h.get? C = some (ecO nm q C N bs bm hdct sn sub ab col dd k0 k1 k2 k3 k5))
    (hq : R (.ok (.ret (.ref (h.objs.size + 1)))) ⟨nuH h C, g, d, t, os⟩) :
    codeAny (model prog w) A (.builtin "ValueError.__new__" ⟨[.ref C], kw⟩) R ⟨h, g, d, t, os⟩ := by
  have F := F.excBase_ValueError
  have hT := fun Y : String => refsVE_contains Y bm hbm
  have hends := F.ends
  have hcB : (Value.ref C :: bm).contains (.type "ValueError") = true := by
    rw [List.contains_cons, hT, F.hasB, Bool.or_true]
  have hcA : (Value.ref C :: bm).contains (.type "AttributeError") = false := by
    rw [List.contains_cons, hT, F.noAttr]
    rfl
  have hcN : (Value.ref C :: bm).contains (.type "NameError") = false := by
    rw [List.contains_cons, hT, F.noName]
    rfl
  refine codeAny_builtinAt F.entry ?_
  unfold Builtin.«BaseException.__new__»
  refine wpAt_bind ?_
  show wpAt _ _ _ (stack >>= _) _ _ _
  refine wpAt_bind (wpAt_stack fun p below => wpAt_of_wpAny ?_)
  wp_walk
  refine wpAt_of_wpAny ?_
  rw [F.owner]
  repeat (first
    | with_reducible refine wpAny_madeHere_exc F.canon hC ?_
    | with_reducible refine wpAny_loadPart_at hC ?_
    | (with_reducible refine wpAny_isSubtype_exc hC ?_; first | rw [hcB] | rw [hcA] | rw [hcN])
    | wp_step)
  show R _ _
  rw [Heap.size_push]
  exact hq
theorem type_kw (hbm : refsVE bm = true) {kw : List (Str × Value)} {fI : Addr} {Q : Fin → Shared → Prop} (hC : h.get? C = some (ecO nm q C N bs bm hdct sn sub ab col dd k0 k1 k2 k3 k5))
    (hi : W.Looks (model prog w) h (typeLookup (.ref C) "__init__") (some (.ref fI))) (hb : ∀ self, W.Looks (model prog w) h (bindSpecial (.ref fI) self) (.ref fI, [self]))
    (hq : codeAny (model prog w) A (.call (.ref fI) ⟨[.ref (h.objs.size + 1)], kw⟩)
      (fun r s' => match r with | .ok (.ret v) => v = .none ∧ Q (.done (.ret (.ref (h.objs.size + 1)))) s' | .ok _ => False | .error e => E e s') ⟨nuH h C, g, d, t, os⟩) :
    wpAny (model prog w) A (Builtin.«type.__call__» ⟨[.ref C], kw⟩) Q E ⟨h, g, d, t, os⟩ := by
  have F := F.excBase_ValueError
  repeat (first
    | with_reducible refine wpAny_loadPart_at hC ?_
    | with_reducible refine wpAny_madeBy_exc hC ?_
    | wp_step)
  refine codeAny_call_builtin_code (Code.quiet_builtin _ F.quiet) (chk_new_kw hbm hC ?_)
  refine new_kw hbm hC ?_
  show wpAny _ _ _ _ _ _
  have k : ∀ b o, h.get? b = some o → (nuH h C).get? b = some o := fun b o e => Heap.get?_push_of_some _ (Heap.get?_push_of_some _ e)
  have hC₁ := k _ _ hC
  have hget : (nuH h C).get? (h.objs.size + 1) = some (excO C h.objs.size) := by
    show Heap.get? ((h.push (W.kdv_tup [])).push (excO C h.objs.size)) (h.objs.size + 1) = _
    heap_get
  have hcC : (Value.ref C :: bm).contains (.ref C) = true := by simp
  have i1 := hi.keeps k
  have b1 := (hb (.ref (h.objs.size + 1))).keeps k
  unfold isInstance
  repeat (first
    | with_reducible refine wpAny_loadPart_at hget ?_
    | (with_reducible refine wpAny_isSubtype_exc hC₁ ?_; rw [hcC])
    | wp_step)
  show wpAny _ _ (typeLookup (.ref C) _) _ _ _
  refine i1.at ?_
  refine wpAny_holding (wpAny_bind (b1.at ?_))
  refine wpAny_bind (wpAny_call (codeAny_mono hq fun r s' z => ?_))
  rcases r with e | (v | _ | _ | _) <;> first | exact z | exact z.elim | skip
  obtain ⟨rfl, z⟩ := z
  first
    | exact wpAny_pure (wpAny_pure z)
    | (wp_walk; exact z)
theorem call_kw (hbm : refsVE bm = true) {kw : List (Str × Value)} {fI : Addr} (hC : h.get? C = some (ecO nm q C N bs bm hdct sn sub ab col dd k0 k1 k2 k3 k5))
    (hi : W.Looks (model prog w) h (typeLookup (.ref C) "__init__") (some (.ref fI))) (hb : ∀ self, W.Looks (model prog w) h (bindSpecial (.ref fI) self) (.ref fI, [self]))
    (hq : codeAny (model prog w) (A.under (.builtin "type.__call__" ⟨[.ref C], kw⟩)) (.call (.ref fI) ⟨[.ref (h.objs.size + 1)], kw⟩) (W.InitBack (h.objs.size + 1) R) ⟨nuH h C, g, d, t, os⟩) :
    codeAny (model prog w) A (.call (.ref C) ⟨[], kw⟩) R ⟨h, g, d, t, os⟩ := by
  have F := F.excBase_ValueError
  have f1 := tc_lookup
  have f2 := tc_bind (.ref C)
  have hTy : (⟨h, g, d, t, os⟩ : Shared).TypeIs (.ref C) "type" := ⟨_, hC, rfl⟩
  refine codeAny_of_tree ?_
  show wpAny _ _ (callAny (.ref C) _) _ _ _
  repeat (any_goals (first
    | assumption
    | with_reducible refine wpAny_loadPart_at hC ?_
    | wp_step))
  refine ⟨rfl, ?_⟩
  refine codeAny_call_builtin_at (Code.quiet_builtin _ (by decide +kernel)) entry_typeCall (wpAny_check_type_call_sub hC (type_kw hbm hC hi hb ?_))
  refine codeAny_mono hq fun r s' z => ?_
  rcases r with e | (v | _ | _ | _) <;> exact z
end
end SL
set_option maxHeartbeats 4000000
namespace SL
open PySem PySem.Spec PyProof.Rows L2
/-- an error of the class C with the value v stands at a -/
def ErrAt (H : Hp) (a C : Addr) (v : V) : Prop := ∃ d, H a = some (exo a C (some d)) ∧ H d = some (exd d [("value", v)])
theorem ErrAt.same {H H' : Hp} (e : Same H H') {a C : Addr} {v : V} (h : ErrAt H a C v) : ErrAt H' a C v := by
  obtain ⟨d, h1, h2⟩ := h
  exact ⟨d, e _ _ h1, e _ _ h2⟩
theorem IniT.binds {P : Program} {K : PySem.W.Frag} {D fI : Addr} {fd : FuncData} (I0 : IniT P K D fI fd) (hd : fd.defaults = .none) : Binds K fd ["self", "value"] [] := by
  obtain ⟨oc, od, dV, kV, doc, pm, an, cda, ct, osl, cc, q1, q2, p0, p1, p2, p3, p4, p5, p6, p7, p8, p9, efd, _⟩ := I0.fn
  subst efd
  have e : dV = .none := hd
  subst e
  refine Binds.all fun us hl => ?_
  match us, hl with
  | [_, _], _ => rfl
theorem IniT.bindsK {P : Program} {K : PySem.W.Frag} {D fI : Addr} {fd : FuncData} (I0 : IniT P K D fI fd) (hd : fd.defaults = .none) (s : Shared) (a u : Value) :
    BindsTo s fd ⟨[a], [("value", u)]⟩ [("self", a), ("value", u)] := by
  obtain ⟨oc, od, dV, kV, doc, pm, an, cda, ct, osl, cc, q1, q2, p0, p1, p2, p3, p4, p5, p6, p7, p8, p9, efd, _⟩ := I0.fn
  subst efd
  have e : dV = .none := hd
  subst e
  exact .of_eq (by rfl)
section
variable {X : Cx} {D fI C : Addr} {fd : FuncData} {x : Str} {p pos kpos : Pos} {e : Expr} {te : TE}
/-- C(value=e) as a value -/
theorem pe_errK (I0 : IniT X.prog X.K D fI fd) (hdf : fd.defaults = .none) (hsu : X.mg "super" = none) (T : ErrC X.K D fI C) {k : Nat} (hr : Room k X.A) (hk2 : 2 ≤ k) (hg : Gl X x) (hm : X.mg x = some (.ref C)) (he : PE X e te)
    (hdb : (x == ("__debug__" : Str)) = false := by decide) :
    PE X (.Call (.Name x p) [] [⟨some "value", e, kpos⟩] pos) (tErr C te) := by
  refine ⟨fun pins s σ H Q I h => ?_⟩
  have F1 : FnOk X.prog X.w X.K X.mg X.base CX0 1 fI fd ["self", "value"] (spIni X.K D fI) := ok_ini I0 hsu
  obtain ⟨nm, q, N, bs, bm, sn, sub, ab, col, dd, k0, k1, k2, k3, k5, hC, hbm⟩ := T.cls
  refine wpAny_Call_Name_kw (ld_glob I hg hm ?_ hdb)
  refine PySem.W.callWith_KW0 (h₀ := X.base) I.ok.mod.kin T.kC rfl ?_ rfl
  show wpAny _ _ (evalAll [(do let v ← eval e X.env; standAt pos; pure v)]) _ _ s
  refine wpAny_evalAll_cons (wpAny_bind (thn (he.run pins s σ H _ I h) fun u s1 ⟨v, H1, I1, ru, q1⟩ => ?_))
  refine wpAny_bind (wpAny_standAt (wpAny_pure (wpAny_evalAll_nil ⟨I1.kIn, ?_⟩)))
  show wpAny _ _ (call (.ref C) [] [("value", u)]) _ _ _
  obtain ⟨hp, g, dr, tk, os⟩ := s1
  let A0 : Addr := hp.objs.size + 1
  have hsz : hp.objs.size ≤ A0 := Nat.le_succ _
  have hn : H1 A0 = none := I1.hok.fresh hsz
  have kk : ∀ b o, hp.get? b = some o → (nuH hp C).get? b = some o := fun b o e => Heap.get?_push_of_some _ (Heap.get?_push_of_some _ e)
  have hget : (nuH hp C).get? A0 = some (PySem.HandSPX.excO C hp.objs.size) := by
    show Heap.get? ((hp.push (PySem.W.kdv_tup [])).push (PySem.HandSPX.excO C hp.objs.size)) (hp.objs.size + 1) = _
    heap_get
  have I2 : Inv X pins σ (upd H1 A0 (exo A0 C none)) ⟨nuH hp C, g, dr, tk, os⟩ := I1.laid (t' := tk) (a := A0) (o := exo A0 C none) kk hsz (exo_ok hget)
  have hsp : spIni X.K D fI [.ref A0, v] (upd H1 A0 (exo A0 C none)) (fun v' H2 => v' = .non ∧ Q (.ref A0) H2) (fun _ _ _ => False) := by
    refine ⟨A0, C, v, rfl, T, upd_same, fun dx hd hne => ⟨rfl, ?_⟩⟩
    have hd1 : H1 dx = none := by rw [upd_ne hne] at hd; exact hd
    have z := q1 A0 dx hn hd1 hne
    have e1 : upd (upd (upd H1 A0 (exo A0 C none)) dx (exd dx [("value", v)])) A0 (exo A0 C (some dx)) = upd (upd H1 dx (exd dx [("value", v)])) A0 (exo A0 C (some dx)) := by
      funext b
      by_cases hb : b = A0
      · rw [hb, upd_same, upd_same]
      · rw [upd_ne hb, upd_ne hb]
        by_cases hb2 : b = dx
        · rw [hb2, upd_same, upd_same]
        · rw [upd_ne hb2, upd_ne hb2, upd_ne hb]
    rw [e1]
    exact z
  have hr2 : Room 2 X.A := hr.mono hk2
  refine wpAny_call (call_kw hbm (I1.kIn _ _ hC) (PySem.W.looks_findIn I1.kIn T.iC) (fun self => PySem.W.bind_fn I1.kIn self T.tI)
    (codeAny_mono (F1.run _ X.stack _ _ ⟨[Value.ref A0], [("value", u)]⟩ [Value.ref A0, u] [V.ref A0, v] _ (fun _ _ _ => False) (hr2.make C [] [("value", u)]) (I2.env0.make C [] [("value", u)]) (I0.bindsK hdf _ _ _) (.cons rfl (.cons ru .nil)) hsp) fun r s' hq' => ?_))
  cases r with
  | error er => exact hq'.elim
  | ok fl => cases fl with
    | ret u' =>
      obtain ⟨v', H2, os2, bare2, un2, hok2, rv, ev, qq⟩ := hq'
      subst ev
      obtain ⟨h2, g2, d2, t2, os'⟩ := s'
      refine ⟨rv, .ref A0, H2, ?_, rfl, qq⟩
      exact I2.call' (ch := []) os2 un2 hok2 bare2 (fun b z => absurd z (by simp))
    | next => exact hq'.elim
    | brk => exact hq'.elim
    | cont => exact hq'.elim
/-- error.value -/
def tErrV (K : PySem.W.Frag) (D fI : Addr) (te : TE) : TE := fun σ H Q => te σ H fun x H1 => ∃ (a C : Addr) (v : V), x = .ref a ∧ ErrC K D fI C ∧ ErrAt H1 a C v ∧ Q v H1
theorem pe_errV (he : PE X e te) (hb : attributeBase e "value" X.env (eval e X.env) = eval e X.env := by rfl) : PE X (.Attribute e "value" pos) (tErrV X.K D fI te) := by
  refine ⟨fun pins s σ H Q I h => ?_⟩
  refine attr_of hb (thn (he.run pins s σ H _ I h) fun u s1 ⟨y, H1, I1, rx, a, C, v, ex, T, ⟨d, ha, hd⟩, q⟩ => ?_)
  subst ex
  obtain rfl : u = Value.ref a := rx
  obtain ⟨t1, ho⟩ := exo_at I1.hok ha
  obtain ⟨mA, hns, hr⟩ := exd_at I1.hok hd
  obtain ⟨od, hod, hl⟩ := lookIn_ns hns
  have lv : List.lookup ("value" : Str) [(("value" : Str), v)] = some v := by simp [List.lookup]
  have rr := hr "value"
  rw [lv] at rr
  obtain ⟨u, hu, ru⟩ := RelO.some_of (v := v) (o := mA "value") rr
  have J : PySem.W.InstAt s1.heap a { cls := .ref C, dict := some d, data := .fields #[.ref t1, .none, .none, .none, .bool false, .none] } C (some od) := ⟨ho, rfl, rfl, hod⟩
  exact HandSPX.exc_get I1.kIn J T.ga T.gg T.exC (PySem.W.findObj_own T.hdC T.noV rfl (by rw [hl, hu])) (handed_of ru) ⟨v, H1, I1.tok _, ru, q⟩
/-- isinstance(error, c) -/
def rIsErr (K : PySem.W.Frag) (D fI : Addr) : List V → Hp → VK → Prop := fun xs H Q => ∃ (a C : Addr) (c : V) (cu : Value) (v : V) (b : Bool), xs = [.ref a, c] ∧ ErrC K D fI C ∧ ErrAt H a C v ∧ ClsV c cu ∧ PySem.W.kitOne K (.ref C) cu = some b ∧ Q (.bl b) H
theorem call_isErr : CallR X (.builtin "isinstance") (rIsErr X.K D fI) := by
  intro pins s σ H xs us Q I r h
  obtain ⟨a, C, c, cu, v, b, rfl, T, ⟨d, ha, hd⟩, k, e, q⟩ := h
  obtain ⟨u1, u2, rfl, r1, r2⟩ := vals2 r
  cases r1
  have e2 := k.eq r2
  subst e2
  obtain ⟨t1, ho⟩ := exo_at I.hok ha
  obtain ⟨mA, hns, hr⟩ := exd_at I.hok hd
  obtain ⟨od, hod, hl⟩ := lookIn_ns hns
  have J : PySem.W.InstAt s.heap a { cls := .ref C, dict := some d, data := .fields #[.ref t1, .none, .none, .none, .bool false, .none] } C (some od) := ⟨ho, rfl, rfl, hod⟩
  have hcl : (PySem.W.clsIn X.K C).isSome = true := by
    obtain ⟨cd, hc, _⟩ := PySem.W.any_some T.hdC
    rw [hc]
    rfl
  exact PySem.W.kia_one (PySem.W.kitx_exc hcl T.ga T.gg T.exC T.cl T.sp T.tk T.ob) I.kIn J e (fun z => nomatch z) fun tk => ⟨.bl b, H, I.tok tk, rfl, q⟩
end
end SL
set_option maxHeartbeats 4000000
/-! draws: what a pot holds -/
namespace SL
open PySem PySem.Spec PyProof.Rows L2
/-- ** of great ints -/
def CPowW (i j : Int) : Prop := 0 ≤ j ∧ (Builtin.Int.intBits i : Int) * j ≤ 2 ^ 27
theorem op_powW {X : Cx} : OpR X (binaryOp .Pow) (rI CPowW fun i j => .int (i ^ j.toNat)) := opI fun _ _ _ _ _ _ _ hc q => pow_int hc.1 hc.2 q
theorem bits_le {i : Int} {n : Nat} (h : i.natAbs < 2 ^ n) : Builtin.Int.intBits i ≤ n + 1 := by
  unfold Builtin.Int.intBits
  split
  · omega
  · rename_i h0
    have h1 : i.natAbs ≠ 0 := fun e => h0 (by have : i = 0 := by omega
                                              rw [this]; rfl)
    have := (Nat.log2_lt h1).mpr h
    omega
/-- a pot with room for f draws -/
def PotL (f : Nat) (l : List V) : Prop := ∃ o m c : Int, l = [.int o, .int m, .int c] ∧ 0 ≤ o ∧ o < 10 ^ 300 ∧ 0 ≤ m ∧ m < 2 ^ 61 ∧ 0 ≤ c ∧ c + f ≤ 1000000
theorem PotL.mono {f g : Nat} {l : List V} (h : PotL f l) (hg : g ≤ f) : PotL g l := by
  obtain ⟨o, m, c, e, h1, h2, h3, h4, h5, h6⟩ := h
  exact ⟨o, m, c, e, h1, h2, h3, h4, h5, by omega⟩
/-- all but p stays -/
def Kp (p : Addr) (H H' : Hp) : Prop := ∀ b o, b ≠ p → H b = some o → H' b = some o
theorem Kp.refl (p : Addr) (H : Hp) : Kp p H H := fun _ _ _ h => h
theorem Kp.trans {p : Addr} {H H1 H2 : Hp} (a : Kp p H H1) (b : Kp p H1 H2) : Kp p H H2 := fun c o hc h => b c o hc (a c o hc h)
theorem Kp.of {p : Addr} {H H1 : Hp} (a : Same H H1) : Kp p H H1 := fun c o _ h => a c o h
theorem Kp.upd {p : Addr} {H : Hp} {o : HO} : Kp p H (upd H p o) := fun c u hc h => by rw [upd_ne hc]; exact h
theorem Kp.new {p q : Addr} {H H1 : Hp} {o : HO} (a : Kp p H H1) (hq : H1 q = none) : Kp p H (L2.upd H1 q o) := fun c u hc h => by
  have z := a c u hc h
  rw [upd_ne (ne_of_none z hq)]
  exact z
theorem Kp.seq {K : PySem.W.Frag} {p a : Addr} {H H' : Hp} {xs : List V} (e : Kp p H H') (hap : a ≠ p) (h : SqL K H a xs) : SqL K H' a xs := by
  rcases h with (h | ⟨o, h⟩) | h
  · exact .inl (.inl (e _ _ hap h))
  · exact .inl (.inr ⟨o, e _ _ hap h⟩)
  · exact .inr h
theorem Kp.free {p b : Addr} {H H' : Hp} (e : Kp p H H') (hb : b ≠ p) (h : H' b = none) : H b = none := by
  cases q : H b with
  | none => rfl
  | some o =>
    rw [e b o hb q] at h
    cases h
theorem Kp.same {p : Addr} {H H' : Hp} (e : Kp p H H') : Same (delH H p) (delH H' p) := fun b o h => by
  by_cases hb : b = p
  · rw [hb, delH_same] at h
    cases h
  · rw [delH_ne hb] at h ⊢
    exact e b o hb h
theorem delH_le {p : Addr} {H : Hp} : Same (delH H p) H := fun b o h => by
  by_cases hb : b = p
  · rw [hb, delH_same] at h
    cases h
  · rw [delH_ne hb] at h
    exact h
theorem same_new {q : Addr} {H : Hp} {o : HO} (hq : H q = none) : Same H (upd H q o) := fun c u h => by
  rw [upd_ne (ne_of_none h hq)]
  exact h
/-- the heap outside of what H0 tracks -/
def Hx (H0 H : Hp) : Hp := fun b => if (H0 b).isSome = true then none else H b
theorem Hx_none {H0 H : Hp} {b : Addr} (h : H0 b = none) : Hx H0 H b = H b := by
  unfold Hx
  rw [h, if_neg (by simp)]
theorem Hx_some {H0 H : Hp} {b : Addr} {o : HO} (h : Hx H0 H b = some o) : H0 b = none ∧ H b = some o := by
  unfold Hx at h
  cases q : H0 b with
  | none =>
    rw [q, if_neg (by simp)] at h
    exact ⟨rfl, h⟩
  | some u =>
    rw [q, if_pos (by simp)] at h
    cases h
theorem Hx_same {H0 H H' : Hp} (e : ∀ b o, H0 b = none → H b = some o → H' b = some o) : Same (Hx H0 H) (Hx H0 H') := fun b o h => by
  obtain ⟨h1, h2⟩ := Hx_some h
  rw [Hx_none h1]
  exact e b o h1 h2
theorem Hx_sub {H0 H1 H : Hp} (e : ∀ b, H1 b = none → H0 b = none) : Same (Hx H1 H) (Hx H0 H) := fun b o h => by
  obtain ⟨h1, h2⟩ := Hx_some h
  rw [Hx_none (e b h1)]
  exact h2
theorem Hx_le {H0 H : Hp} : Same (Hx H0 H) H := fun b o h => (Hx_some h).2
/-- what is tracked stays tracked -/
def Dm (H H' : Hp) : Prop := ∀ b, H' b = none → H b = none
theorem Dm.refl (H : Hp) : Dm H H := fun _ h => h
theorem Dm.trans {H H1 H2 : Hp} (a : Dm H H1) (b : Dm H1 H2) : Dm H H2 := fun c h => a c (b c h)
theorem Kp.dm {p : Addr} {H H' : Hp} (e : Kp p H H') {o : HO} (hp : H' p = some o) : Dm H H' := fun b h => by
  by_cases hb : b = p
  · rw [hb, hp] at h
    cases h
  · exact e.free hb h
theorem Same.dm {H H' : Hp} (e : Same H H') : Dm H H' := fun b h => e.free h
theorem Dm.upd {H : Hp} {a : Addr} {o : HO} : Dm H (L2.upd H a o) := fun b h => by
  by_cases hb : b = a
  · rw [hb, upd_same] at h
    cases h
  · rw [upd_ne hb] at h
    exact h
/-- _law_take(pot, upto) -/
def spTake : Sp := fun vs H Q _ => ∃ (p : Addr) (n : Int) (f : Nat) (l : List V), vs = [.ref p, .int n] ∧ H p = some (.lst l) ∧ PotL (f + 1) l ∧ 0 < n ∧ n ≤ 10 ^ 18 ∧
  ∀ (r : Int) (l' : List V) (H' : Hp), 0 ≤ r → r < n → PotL f l' → H' p = some (.lst l') → Kp p H H' → Q (.int r) H'
/-- _law_of(pot, some) -/
def spOf : Sp := fun vs H Q _ => ∃ (p a : Addr) (f : Nat) (l xs : List V), vs = [.ref p, .ref a] ∧ H p = some (.lst l) ∧ PotL (f + 1) l ∧ H a = some (.lst xs) ∧ a ≠ p ∧ 0 < xs.length ∧ xs.length ≤ 1000000 ∧
  ∀ (x : V) (l' : List V) (H' : Hp), x ∈ xs → PotL f l' → H' p = some (.lst l') → Kp p H H' → Q x H'
/-- _law_pot(script, k) -/
def spPot (K : PySem.W.Frag) : Sp := fun vs H Q _ => ∃ (a : Addr) (ns : List Int) (k : Int), vs = [.ref a, .int k] ∧ SqL K H a (ns.map V.int) ∧ 0 ≤ k ∧ k ≤ 1000 ∧ ns.length ≤ 63 ∧
  ∀ (p : Addr) (l : List V) (H' : Hp), H p = none → PotL 1000000 l → H' p = some (.lst l) → Same H H' → Q (.ref p) H'
/-- the first part of a pot -/
theorem own_ok (z : Int) : 0 ≤ (if z < 0 then -z else z) % ((10 : Int) ^ (60 : Int).toNat) ^ (5 : Int).toNat * (if decide ((10 : Int) ^ (18 : Int).toNat ≤ if z < 0 then -z else z) = true then 1 else 0) ∧
    (if z < 0 then -z else z) % ((10 : Int) ^ (60 : Int).toNat) ^ (5 : Int).toNat * (if decide ((10 : Int) ^ (18 : Int).toNat ≤ if z < 0 then -z else z) = true then 1 else 0) < 10 ^ 300 := by
  have hM : (0 : Int) < ((10 : Int) ^ (60 : Int).toNat) ^ (5 : Int).toNat := by decide +kernel
  have hM2 : ((10 : Int) ^ (60 : Int).toNat) ^ (5 : Int).toNat = 10 ^ 300 := by decide +kernel
  have a0 := Int.emod_nonneg (if z < 0 then -z else z) (Int.ne_of_gt hM)
  have a1 := Int.emod_lt_of_pos (if z < 0 then -z else z) hM
  rw [hM2] at a0 a1 ⊢
  generalize (if z < 0 then -z else z) % 10 ^ 300 = ow at a0 a1 ⊢
  generalize decide ((10 : Int) ^ (18 : Int).toNat ≤ if z < 0 then -z else z) = b
  cases b with
  | true =>
    rw [if_pos rfl, Int.mul_one]
    exact ⟨a0, a1⟩
  | false =>
    rw [if_neg Bool.false_ne_true, Int.mul_zero]
    exact ⟨Int.le_refl 0, by decide +kernel⟩
theorem pw_10_60 : CPowW 10 60 := ⟨by decide, by decide +kernel⟩
theorem pw_60_5 : CPowW ((10 : Int) ^ (60 : Int).toNat) 5 := ⟨by decide, by decide +kernel⟩
theorem pw_10_18 : CPowW 10 18 := ⟨by decide, by decide +kernel⟩
theorem pw_pos : (0 : Int) < ((10 : Int) ^ (60 : Int).toNat) ^ (5 : Int).toNat := by decide +kernel
theorem b01 (b : Bool) : -(2 ^ 64) < (if b = true then (1 : Int) else 0) ∧ (if b = true then (1 : Int) else 0) < 2 ^ 64 := by cases b <;> decide
theorem mod_small (z : Int) : -(2 ^ 64) < z % 2305843009213693951 ∧ z % 2305843009213693951 < 2 ^ 64 := by omega
theorem mix_ok (z : Int) : 0 ≤ z % 2305843009213693921 ∧ z % 2305843009213693921 < 2 ^ 61 := by omega
/-- a remainder's place in a written list -/
theorem atI_mod {xs : List V} {i : Int} {n : Nat} (hn : xs.length = n) (h0 : 0 ≤ i) (h1 : i < n) : ∃ v, atI xs i = some v ∧ v ∈ xs := by
  obtain ⟨j, hj⟩ : ∃ j : Nat, i = (j : Int) := ⟨i.toNat, by omega⟩
  have hlt : j < xs.length := by omega
  refine ⟨xs[j], ?_, List.getElem_mem hlt⟩
  rw [hj]
  exact atI_nat (List.getElem?_eq_getElem hlt)
end SL
set_option maxHeartbeats 4000000
namespace SL
open PySem PySem.Spec PyProof.Rows L2
/-! rows of errors, rows of looks at an error -/
def tErrs (te : TE) : List Addr → TA
  | [] => tNil
  | C :: r => tCons (tErr C te) (tErrs te r)
structure NewE (H H' : Hp) (as Cs : List Addr) (v : V) : Prop where
  same : Same H H'
  len : as.length = Cs.length
  at_ : ∀ (i : Nat) (a C : Addr), as[i]? = some a → Cs[i]? = some C → ErrAt H' a C v
theorem errs_read {v : V} {σ : L2.St} (h0 : σ[0]? = some (some v)) : ∀ (Cs : List Addr) (H : Hp) (R : List V → Hp → Prop), (∀ as H', NewE H H' as Cs v → R (as.map V.ref) H') → tErrs (tVar 0) Cs σ H R
  | [], H, R, k => k [] H ⟨Same.refl H, rfl, fun i a C h => by simp at h⟩
  | C :: r, H, R, k => by
    refine ⟨v, h0, fun a d ha hd hne => ?_⟩
    have hs : Same H (upd (upd H d (exd d [("value", v)])) a (exo a C (some d))) := fun b o h => by
      rw [upd_ne (ne_of_none h ha), upd_ne (ne_of_none h hd)]
      exact h
    have he : ErrAt (upd (upd H d (exd d [("value", v)])) a (exo a C (some d))) a C v := ⟨d, upd_same, by rw [upd_ne hne]; exact upd_same⟩
    refine errs_read h0 r _ _ fun as H' n => ?_
    refine k (a :: as) H' ⟨hs.trans n.same, by rw [List.length_cons, List.length_cons, n.len], fun i a' C' h1 h2 => ?_⟩
    cases i with
    | zero =>
      have e1 : a = a' := Option.some.inj h1
      have e2 : C = C' := Option.some.inj h2
      rw [← e1, ← e2]
      exact he.same n.same
    | succ i => exact n.at_ i a' C' h1 h2
theorem ErrAt.kp {H H' : Hp} {L a C : Addr} {v : V} {xs : List V} (h : ErrAt H a C v) (hL : H L = some (.lst xs)) (kp : Kp L H H') : ErrAt H' a C v := by
  obtain ⟨d, h1, h2⟩ := h
  have n1 : a ≠ L := ne_of h1 hL (fun z => by
    have z' : HO.ext _ = HO.lst xs := z
    cases z')
  have n2 : d ≠ L := ne_of h2 hL (fun z => by
    have z' : HO.ext _ = HO.lst xs := z
    cases z')
  exact ⟨d, kp _ _ n1 h1, kp _ _ n2 h2⟩
/-- the first n errors stand in the list at L -/
structure MadeTo (c : Nat → Addr) (v : V) (H0 H : Hp) (L : Addr) (as : List Addr) (n : Nat) : Prop where
  lst : H L = some (.lst (as.map V.ref))
  len : as.length = n
  at_ : ∀ (i : Nat) (a : Addr), as[i]? = some a → ErrAt H a (c i) v
  kp : Kp L H0 H
theorem ext_read {K : PySem.W.Frag} {c : Nat → Addr} {v : V} {H0 H : Hp} {L : Addr} {as : List Addr} {n m : Nat} {σ : L2.St} {D : Ends} {Cs : List Addr} (h0 : σ[0]? = some (some v)) (h1 : σ[1]? = some (some (.ref L)))
    (M : MadeTo c v H0 H L as n) (hCs : Cs = (List.range m).map fun j => c (n + j)) (hm : n + m ≤ 1000) (k : ∀ as' H', MadeTo c v H0 H' L as' (n + m) → D.nx σ H') :
    tDrop (tBM K "list" rExtend (tVar 1) (tCons (tLst (tErrs (tVar 0) Cs)) tNil)) D σ H := by
  have hlen : Cs.length = m := by rw [hCs, List.length_map, List.length_range]
  refine ⟨_, h1, .inl ⟨rfl, _, SqL.of M.lst⟩, ?_⟩
  refine errs_read h0 Cs H _ fun bs H1 N => ?_
  have hb : bs.length = m := by rw [N.len, hlen]
  refine ⟨?_, fun q hq => ?_⟩
  · rw [List.length_map, sizeLine_eq]
    omega
  · have hL1 : H1 L = some (.lst (as.map V.ref)) := N.same _ _ M.lst
    have nLq : L ≠ q := ne_of_none hL1 hq
    refine ⟨L, q, as.map V.ref, bs.map V.ref, rfl, rfl, (by rw [upd_ne nLq]; exact hL1), upd_same, ?_, ?_⟩
    · rw [List.length_map, List.length_map, sizeLine_eq, M.len]
      omega
    · have kp1 : Kp L H (upd H1 q (.lst (bs.map V.ref))) := (Kp.of N.same).new hq
      have kp2 : Kp L H1 (upd (upd H1 q (.lst (bs.map V.ref))) L (.lst (as.map V.ref ++ bs.map V.ref))) := fun b o hb' ho => by
        rw [upd_ne hb', upd_ne (ne_of_none ho hq)]
        exact ho
      refine k (as ++ bs) _ ⟨by rw [List.map_append]; exact upd_same, by rw [List.length_append, M.len, hb], fun i a hi => ?_, M.kp.trans ((Kp.of N.same).trans kp2)⟩
      by_cases hin : i < as.length
      · rw [List.getElem?_append_left hin] at hi
        exact ((M.at_ i a hi).same N.same).kp hL1 kp2
      · rw [List.getElem?_append_right (by omega)] at hi
        have hj : i - as.length < m := by
          have := (List.getElem?_eq_some_iff.mp hi).1
          omega
        refine ErrAt.kp (N.at_ (i - as.length) a (c i) hi ?_) hL1 kp2
        rw [hCs, List.getElem?_map, List.getElem?_range hj]
        show some (c (n + (i - as.length))) = some (c i)
        congr 2
        have := M.len
        omega
/-! isinstance over a row of classes -/
def tIss (K : PySem.W.Frag) (D fI : Addr) : List Addr → TA
  | [] => tNil
  | C :: r => tCons (tCB (rIsErr K D fI) (tCons (tVar 0) (tCons (tC (.ref C)) tNil))) (tIss K D fI r)
theorem iss_read {K : PySem.W.Frag} {D fI a C : Addr} {v : V} {σ : L2.St} {H : Hp} (h0 : σ[0]? = some (some (.ref a))) (T : ErrC K D fI C) (he : ErrAt H a C v) : ∀ (Cs : List Addr) (R : List V → Hp → Prop),
    (∀ C' ∈ Cs, PySem.W.kitOne K (.ref C) (.ref C') = some (decide (C = C'))) → R (Cs.map fun C' => V.bl (decide (C = C'))) H → tIss K D fI Cs σ H R
  | [], R, _, k => k
  | C' :: r, R, hk, k => by
    refine ⟨_, h0, a, C, _, _, v, _, rfl, T, he, .own C', hk C' List.mem_cons_self, ?_⟩
    exact iss_read h0 T he r _ (fun C2 h2 => hk C2 (List.mem_cons_of_mem _ h2)) k
/-- list.count of True or False -/
def rCountB (K : PySem.W.Frag) : V → List V → Hp → VK → Prop := fun x vs H Q => ∃ (p : Addr) (bs : List Bool) (k : Bool), x = .ref p ∧ vs = [.bl k] ∧ SqL K H p (bs.map V.bl) ∧ Q (.int (bs.count k)) H
theorem reads_bools {hp : Heap} : ∀ {bs : List Bool} {us : List Value}, Vals (bs.map V.bl) us → ReadsAll hp us (bs.map PyData.bool) []
  | [], _, r => by cases r; exact .nil
  | b :: bs, _, r => by
    cases r with
    | cons r1 r2 =>
      cases r1
      exact .cons (as := []) (bs := []) (.bool b) (reads_bools r2)
theorem countIn_bools (k : Bool) : ∀ bs : List Bool, countIn (.bool k) (bs.map PyData.bool) = ((bs.count k : Nat) : Int)
  | [] => rfl
  | b :: bs => by
    have ih := countIn_bools k bs
    rw [List.map_cons, countIn, ih, List.count_cons]
    simp only [same]
    rcases Bool.eq_false_or_eq_true (b == k) with hb | hb <;> simp only [hb, Bool.false_eq_true, if_true, if_false] <;> push_cast <;> omega
theorem has_bools : ∀ bs : List Bool, (bs.map PyData.bool).all Shape.bool.has = true
  | [] => rfl
  | b :: bs => by
    rw [List.map_cons, List.all_cons, has_bools bs]
    rfl
theorem mt_countB {X : Cx} : MtR X "list.count" (rCountB X.K) := by
  intro pins s σ H x xs v us Q I rx rxs h
  obtain ⟨p, bs, k, rfl, rfl, hs, q⟩ := h
  cases rx
  obtain ⟨u, rfl, ru⟩ := rxs.one
  cases ru
  obtain ⟨its, rv, pl, _⟩ := I.list hs
  refine count_list_bools (hp := s.heap) pl.isList (reads_bools rv) (has_bools bs) ?_
  rw [countIn_bools]
  exact ⟨.int (bs.count k : Nat), H, I.tok _, ⟨_, rfl⟩, q⟩
end SL
set_option maxHeartbeats 4000000
/-! what the top leaves, by facts -/
namespace SL
open PySem PySem.Spec PyProof.Rows L2
def veT : List Value := [.type "ValueError", .type "Exception", .type "BaseException", .type "object"]
/-- the class's object -/
def clB (K : PySem.W.Frag) (C : Addr) : Bool := match K.lookup C with
  | some ⟨.type "type", _, .cls cd, sl⟩ => (match cd.mro, sl.toList with
    | .ref C' :: bm, [_, _, _, _, some (.builtin n), _] => C' == C && (n == "ValueError.__new__" && (!cd.hasDel && (cd.hasDict && PySem.HandSPX.refsVE bm)))
    | _, _ => false)
  | _ => false
theorem clB_ok {K : PySem.W.Frag} {C : Addr} (h : clB K C = true) :
    ∃ nm q N bs bm sn sub ab col dd k0 k1 k2 k3 k5, K.lookup C = some (excClassObj nm q C N bs bm true sn sub ab col dd k0 k1 k2 k3 k5 "ValueError.__new__") ∧ PySem.HandSPX.refsVE bm = true := by
  unfold clB at h
  split at h
  · rename_i dd cd sl ho
    split at h
    · rename_i C' bm k0 k1 k2 k3 n k5 hm hs
      simp only [Bool.and_eq_true, beq_iff_eq, Bool.not_eq_true'] at h
      obtain ⟨rfl, rfl, hdel, hd, hr⟩ := h
      obtain ⟨nm, bs, mro, ns, qn, hdc, sn, sub, ab, col, del⟩ := cd
      dsimp only at hm hdel hd
      subst hm hdel hd
      have hsl : sl = #[k0, k1, k2, k3, some (.builtin "ValueError.__new__"), k5] := by
        obtain ⟨l⟩ := sl
        simp only at hs
        rw [hs]
      subst hsl
      exact ⟨nm, qn, ns, bs, bm, sn, sub, ab, col, dd, k0, k1, k2, k3, k5, ho, hr⟩
    · cases h
  · cases h
def dO (a b : Option (Option Value)) : Bool := decide (a = b)
def dB (a : Option Bool) : Bool := decide (a = some true)
/-- an error's class -/
def errB (K : PySem.W.Frag) (D fI C : Addr) : Bool :=
  clB K C && (dO (PySem.W.findIn K (.ref C) "__setattr__") (some (some (.builtin "object.__setattr__"))) && (dO (PySem.W.findIn K (.ref C) "__getattribute__") (some (some (.builtin "BaseException.__getattribute__"))) &&
  (dO (PySem.W.findIn K (.ref C) "__getattr__") (some none) && (dO (PySem.W.findIn K (.ref C) "value") (some none) && (dO (PySem.W.findIn K (.ref C) "__init__") (some (some (.ref fI))) &&
  (decide (PySem.W.typeIn K (.ref fI) = some (.type "function")) && (PySem.W.keepIn K (.ref C) && (dB (PySem.W.subIn K (.ref C) (.type "BaseException")) && (dB (PySem.W.subIn K (.ref C) (.type "ValueError")) &&
  (decide (PySem.W.typeIn K (.ref C) = some (.type "type")) && (PySem.W.hasDictIn K C && (dB (PySem.W.mroIn K C (.ref D)) && (dO (PySem.W.ks_superIn K C D "__init__") (some (some (.builtin "ValueError.__init__"))) &&
  (dO (PySem.W.findIn K (.ref C) "__class__") (some (some (.builtin "object.__class__"))) && (dO (PySem.W.specialIn K (.builtin "object.__class__") "__get__") (some (some (.builtin "getset_descriptor.__get__"))) &&
  (dB (PySem.W.takesIn K (.builtin "object.__class__")) && dB (PySem.W.mroIn K C (.type "object"))))))))))))))))))
theorem errB_ok {K : PySem.W.Frag} {D fI C : Addr} (h : errB K D fI C = true) : ErrC K D fI C := by
  unfold errB dO dB at h
  simp only [Bool.and_eq_true, decide_eq_true_eq] at h
  obtain ⟨h1, h2, h3, h4, h5, h6, h7, h8, h9, h10, h11, h12, h13, h14, h15, h16, h17, h18⟩ := h
  exact ⟨clB_ok h1, h2, h3, h4, h5, h6, h7, h8, h9, h10, h11, h12, h13, h14, h15, h16, h17, h18⟩
/-- the __init__ at fI -/
abbrev FnI : Type := Option (Str × Str × Arguments × FuncBody × Scope × Addr × Addr × List Str)
def fnI (K : PySem.W.Frag) (f : Addr) : FnI := match K.lookup f with
  | some ⟨_, _, .func fd, _⟩ => some (fd.name, fd.qualname, fd.params, fd.body, fd.scope, fd.globals, fd.builtins, fd.closure.map (·.1))
  | _ => none
def iniV (q1 q2 p0 p1 p2 p3 p4 p5 p6 p7 p8 p9 : Pos) : FnI := some ("__init__", "LabelError.__init__", erA q1 q2, .stmts (erB p0 p1 p2 p3 p4 p5 p6 p7 p8 p9), erS, mainGlobals, builtinsNs, ["__class__"])
def fileB (P : Program) (vs : Array Value) : Bool := match vs[2]? with
  | some (Value.str file _) => ((P.main.file : Str) == file)
  | _ => false
def iniB (P : Program) (K : PySem.W.Frag) (D fI : Addr) : Bool := (match K.lookup fI with
  | some ⟨_, _, .func fd, _⟩ => (match fd.code, fd.closure, fd.defaults with
    | .ref cda, [(_, cc)], .none => PySem.W.codeIn K (.ref cda) "LabelError.__init__" && ((match K.lookup cda with
        | some ⟨_, _, .fields vs, _⟩ => fileB P vs
        | _ => false) && (match K.lookup cc with
        | some ⟨_, _, .cell (some (.ref D')), _⟩ => D' == D
        | _ => false))
    | _, _, _ => false)
  | _ => false) && ((PySem.W.clsIn K D).isSome && decide (PySem.W.nsIn K cStatics "thirdparty.any" = some none))
theorem iniB_ok {P : Program} {K : PySem.W.Frag} {D fI : Addr} {q1 q2 p0 p1 p2 p3 p4 p5 p6 p7 p8 p9 : Pos} (h : iniB P K D fI = true)
    (e : fnI K fI = iniV q1 q2 p0 p1 p2 p3 p4 p5 p6 p7 p8 p9) (hp : (p2.endLine == p4.line) = true) (hn : (P.main.scope.names.lookup ("super" : Str)).isSome = false) :
    ∃ fd, IniT P K D fI fd ∧ fd.defaults = .none := by
  unfold iniB at h
  rw [Bool.and_eq_true] at h
  obtain ⟨h1, h2⟩ := h
  rw [Bool.and_eq_true, decide_eq_true_eq] at h2
  unfold fnI at e
  cases lk : K.lookup fI with
  | none => rw [lk] at h1; cases h1
  | some o =>
    rw [lk] at h1 e
    obtain ⟨oc, od, dt, osl⟩ := o
    cases dt with
    | func fd =>
      obtain ⟨n1, n2, n3, n4, n5, n6, n7, n8, n9, n10, n11, n12, n13, n14, n15⟩ := fd
      have e2 : (some (n1, n2, n3, n4, n5, n6, n15, n7.map (·.1)) : FnI) = iniV q1 q2 p0 p1 p2 p3 p4 p5 p6 p7 p8 p9 := e
      unfold iniV at e2
      simp only [Option.some.injEq, Prod.mk.injEq] at e2
      obtain ⟨e1, e2, e3, e4, e5, e6, e7, e8⟩ := e2
      subst e1 e2 e3 e4 e5 e6 e7
      dsimp only at h1
      split at h1
      · rename_i cda nm cc
        rw [List.map_cons, List.map_nil] at e8
        have e9 : nm = "__class__" := (List.cons.inj e8).1
        subst e9
        simp only [Bool.and_eq_true] at h1
        obtain ⟨c1, c2, c3⟩ := h1
        refine ⟨_, ⟨⟨oc, od, _, _, _, _, _, cda, _, osl, cc, q1, q2, p0, p1, p2, p3, p4, p5, p6, p7, p8, p9, rfl, hp, lk, c1, ?_, ?_⟩, h2.1, hn, h2.2⟩, rfl⟩
        · split at c2
          · rename_i ccl cdd vs ccs ho
            unfold fileB at c2
            split at c2
            · rename_i file tf hv
              exact ⟨ccl, cdd, vs, ccs, file, tf, ho, hv, c2⟩
            · cases c2
          · cases c2
        · split at c3
          · rename_i cl cld D' csl ho
            have : D' = D := beq_iff_eq.mp c3
            subst this
            exact ⟨cl, cld, csl, ho⟩
          · cases c3
      · cases h1
    | _ => cases h1
/-! the Hook -/
def fragX (n : Nat) (g : Addr → Option Obj) : PySem.W.Frag := He.frG g (sysModules :: cStatics :: He.asD g n)
abbrev AlX : Type := (He.AlD × FnI) × Bool
def obsX (fa : List He.Fa) (fn : List He.DefD) (fI : PySem.W.Frag → Addr) (ex : PySem.W.Frag → Bool) (K : PySem.W.Frag) : AlX := ((He.obsD fa fn K, fnI K (fI K)), ex K)
def hookX (n : Nat) (fa : List He.Fa) (fn : List He.DefD) (fI : PySem.W.Frag → Addr) (iv : FnI) (ex : PySem.W.Frag → Bool) : PySem.W.Hook where
  α := AlX
  obs := fun s => obsX fa fn fI ex (fragX n s.heap.get?)
  val := fun _ => ((He.valD fn, iv), true)
  says := fun _ h => ∃ K : PySem.W.Frag, K.In h ∧ obsX fa fn fI ex K = ((He.valD fn, iv), true)
  of := fun _ _ e => ⟨_, He.frG_in, e⟩
  keeps := fun _ _ _ ⟨K, hK, c⟩ k => ⟨K, PySem.W.Frag.In.keeps hK k, c⟩
theorem obsX_eq {n : Nat} {fa : List He.Fa} {fn : List He.DefD} {fI : PySem.W.Frag → Addr} {iv : FnI} {ex : PySem.W.Frag → Bool} {g : Addr → Option Obj} {s : Shared} (h : ∀ a, g a = s.heap.get? a) :
    obsX fa fn fI ex (fragX n g) = (hookX n fa fn fI iv ex).obs s := by
  have e : g = s.heap.get? := funext h
  rw [e] <;> rfl
end SL
set_option maxHeartbeats 4000000
/-! rules that the layer lacks: match over texts, == of any list and [], dict(pairs with tuple keys), zip of tuples walked -/
namespace PySem.SeqAt
open AutoSeq1 (wpAny_loadPart')
open MeetsSeq MeetsSeq2 MeetsSeq3 SeqRoads2
section
variable {prog : Program} {w : World}
theorem slb_list_ne (l b : Addr) (items items2 : Array Value) (n n2 : Nat) (dd dd2 : Option Addr) (sl sl2 : Array (Option Value)) (hsz : items.size ≠ items2.size) :
    MeetsIn prog w (Builtin.«list.__eq__» ⟨[.ref l, .ref b], []⟩)
      (fun A R s => s.heap.get? l = some { cls := .type "list", dict := dd, data := .seq items n, slots := sl } ∧ s.heap.get? b = some { cls := .type "list", dict := dd2, data := .seq items2 n2, slots := sl2 } ∧
        R (.ok (.ret (.bool false))) s) := by
  intro A R s h
  obtain ⟨hp, g, d, tk, os⟩ := s; obtain ⟨hl, hb, h⟩ := h
  have f3 := AutoSeq1.sub_list_list
  have hne : (items.size != items2.size) = true := by simp [hsz]
  wp_walk using wpAny_loadPart' hl, wpAny_loadPart' hb
  exact h
theorem slb_list_ne2 (l b : Addr) (items items2 : Array Value) (n n2 : Nat) (dd dd2 : Option Addr) (sl sl2 : Array (Option Value)) (hsz : items.size ≠ items2.size) :
    MeetsIn prog w (Builtin.«list.__ne__» ⟨[.ref l, .ref b], []⟩)
      (fun A R s => s.heap.get? l = some { cls := .type "list", dict := dd, data := .seq items n, slots := sl } ∧ s.heap.get? b = some { cls := .type "list", dict := dd2, data := .seq items2 n2, slots := sl2 } ∧
        R (.ok (.ret (.bool true))) s) := by
  intro A R s h
  obtain ⟨hp, g, d, tk, os⟩ := s; obtain ⟨hl, hb, h⟩ := h
  have f3 := AutoSeq1.sub_list_list
  have hne : (items.size != items2.size) = true := by simp [hsz]
  wp_walk using wpAny_loadPart' hl, wpAny_loadPart' hb
  exact h
theorem slb_rn_ne {A : Around} {s : Shared} {l b : Addr} {items items2 : Array Value} (hl : s.heap.IsList l items) (hb : s.heap.IsList b items2) (hsz : items.size ≠ items2.size) (hu : A.units < cLine)
    (E Q : Value → Shared → Prop) (h : Q (.bool true) s) : wpAny (model prog w) A (richCompare .NotEq (.ref l) (.ref b)) Q E s := by
  obtain ⟨⟨cls, dd, data, sl⟩, ho, hc, n, hd⟩ := id hl
  obtain ⟨⟨cls2, dd2, data2, sl2⟩, ho2, hc2, n2, hd2⟩ := id hb
  simp only at hc hd hc2 hd2
  subst hc hd hc2 hd2
  have ta : s.TypeIs (.ref l) "list" := ⟨_, ho, rfl⟩
  have tb : s.TypeIs (.ref b) "list" := ⟨_, ho2, rfl⟩
  exact wpAny_richCompare_same_room (op := .NotEq) ta tb F.slot_list_ne (call_meetsIn F.slot_list_ne ta F.entry_list_ne (F.args_list_ne_2 _ _) (slb_list_ne2 l b items items2 n n2 dd dd2 sl sl2 hsz)
    ⟨ho, ho2, show Value.bool true ≠ Value.notImplemented ∧ Q (.bool true) s from ⟨(fun x => nomatch x), h⟩⟩) hu
theorem slb_rc_ne {A : Around} {s : Shared} {l b : Addr} {items items2 : Array Value} (hl : s.heap.IsList l items) (hb : s.heap.IsList b items2) (hsz : items.size ≠ items2.size) (hu : A.units < cLine)
    (E Q : Value → Shared → Prop) (h : Q (.bool false) s) : wpAny (model prog w) A (richCompare .Eq (.ref l) (.ref b)) Q E s := by
  obtain ⟨⟨cls, dd, data, sl⟩, ho, hc, n, hd⟩ := id hl
  obtain ⟨⟨cls2, dd2, data2, sl2⟩, ho2, hc2, n2, hd2⟩ := id hb
  simp only at hc hd hc2 hd2
  subst hc hd hc2 hd2
  have ta : s.TypeIs (.ref l) "list" := ⟨_, ho, rfl⟩
  have tb : s.TypeIs (.ref b) "list" := ⟨_, ho2, rfl⟩
  exact wpAny_richCompare_same_room (op := .Eq) ta tb F.slot_list_eq (call_meetsIn F.slot_list_eq ta F.entry_list_eq (F.args_list_eq_2 _ _) (slb_list_ne l b items items2 n n2 dd dd2 sl sl2 hsz)
    ⟨ho, ho2, show Value.bool false ≠ Value.notImplemented ∧ Q (.bool false) s from ⟨(fun x => nomatch x), h⟩⟩) hu
end
end PySem.SeqAt
namespace SL
open PySem PySem.Spec PyProof.Rows L2
/-! match over a text -/
structure PM (X : Cx) (cs : List MatchCase) (t : V → TS) : Prop where
  run : ∀ (pins : List (Addr × Obj)) (s : Shared) (σ : L2.St) (H : Hp) (D : Ends) (v : V) (u : Value) (first : Bool), Inv X pins σ H s → RelV v u → t v D σ H →
    wpAny (model X.prog X.w) X.A (matchCases cs X.env u first) (SP X pins D) X.xe s
def mNil : V → TS := fun _ D σ H => D.nx σ H
def mStr (y : Str) (tb : TS) (tr : V → TS) : V → TS := fun v D σ H => ∃ z, v = .str z ∧ if z = y then tb D σ H else tr v D σ H
section
variable {X : Cx}
theorem pm_nil : PM X [] mNil := ⟨fun pins s σ H D v u first I r h => wpAny_matchCases_nil ⟨σ, H, I, h⟩⟩
theorem pm_str {y : Str} {j : Nat} {pos pos2 : Pos} {body : List Stmt} {rest : List MatchCase} {tb : TS} {tr : V → TS} (hb : PSs X body tb) (hr : PM X rest tr) :
    PM X (⟨.MatchValue (.Constant (.str y) j pos) pos2, none, body⟩ :: rest) (mStr y tb tr) := by
  refine ⟨fun pins s σ H D v u first I r h => ?_⟩
  obtain ⟨z, rfl, h⟩ := h
  refine wpAny_matchCases_cons (wpAny_matchPattern_Value ?_)
  refine thn (pe_str.run pins s σ H (fun w H1 => w = .str y ∧ H1 = H) I ⟨rfl, rfl⟩) fun x s1 hx => ?_
  obtain ⟨w, H1, I1, rw_, rfl, rfl⟩ := hx
  refine thn (op_eq (X := X) pins s1 σ H1 (.str z) (.str y) u x (fun w H2 => w = .bl (decide (z = y)) ∧ H2 = H1) I1 r rw_ ⟨rfl, ?_, rfl⟩) fun c s2 hc => ?_
  · by_cases e : z = y
    · rw [e, decide_eq_true rfl, decide_eq_true rfl]
    · rw [decide_eq_false e, decide_eq_false fun q => e (V.str.inj q)]
  obtain ⟨w, H2, I2, r2, rfl, rfl⟩ := hc
  cases r2
  refine wpAny_truthy_bool ?_
  by_cases e : z = y
  · rw [decide_eq_true e, if_pos rfl]
    rw [if_pos e] at h
    exact wpAny_assignInOrder_none (hb.run pins s2 σ H2 D I2 h)
  · rw [decide_eq_false e, if_neg Bool.false_ne_true]
    rw [if_neg e] at h
    exact hr.run pins s2 σ H2 D (.str z) u false I2 r h
theorem ps_match {e : Expr} {cs : List MatchCase} {pos : Pos} {te : TE} {t : V → TS} (he : PE X e te) (hc : PM X cs t) : PS X (.Match e cs pos) (fun D σ H => te σ H fun v H1 => t v D σ H1) := by
  refine ⟨fun pins s σ H D I h => ?_⟩
  exact wpAny_Match (thn (he.run pins s σ H _ I h) fun u s1 ⟨v, H1, I1, r1, q1⟩ => hc.run pins s1 σ H1 D v u true I1 r1 q1)
end
/-! xs == [], xs != [] : any list and a tracked empty one -/
def rEqNil (K : PySem.W.Frag) : R2 := fun x y H Q => ∃ (a b : Addr) (xs : List V), x = .ref a ∧ y = .ref b ∧ SqL K H a xs ∧ H b = some (.lst []) ∧ Q (.bl xs.isEmpty) H
def rNeNil (K : PySem.W.Frag) : R2 := fun x y H Q => ∃ (a b : Addr) (xs : List V), x = .ref a ∧ y = .ref b ∧ SqL K H a xs ∧ H b = some (.lst []) ∧ Q (.bl (!xs.isEmpty)) H
section
variable {X : Cx}
theorem op_eqNil (hu : X.A.units + 64 < cLine) : OpR X (compareOp .Eq) (rEqNil X.K) := by
  intro pins s σ H x y v u Q I rx ry h
  obtain ⟨a, b, xs, rfl, rfl, ha, hb, q⟩ := h
  cases rx
  cases ry
  obtain ⟨its, rv, pl, _⟩ := I.list ha
  obtain ⟨its2, rv2, pl2, _⟩ := I.list (SqL.of hb)
  cases rv2
  cases xs with
  | nil =>
    cases rv
    exact SeqAt.rcP_lists (e := fun _ => true) pl.isList pl2.isList rfl (by omega) (fun j h1 => absurd h1 (by simp)) _ _ ⟨.bl true, H, I, rfl, q⟩
  | cons x xs =>
    cases rv
    exact SeqAt.slb_rc_ne pl.isList pl2.isList (by simp) (by omega) _ _ ⟨.bl false, H, I, rfl, q⟩
theorem op_neNil (hu : X.A.units + 64 < cLine) : OpR X (compareOp .NotEq) (rNeNil X.K) := by
  intro pins s σ H x y v u Q I rx ry h
  obtain ⟨a, b, xs, rfl, rfl, ha, hb, q⟩ := h
  cases xs with
  | nil => exact op_neD hu pins s σ H _ _ v u Q I rx ry ⟨.list [], .list [], .lst ha .nil, .lst (SqL.of hb) .nil, by decide +kernel, by decide +kernel, q⟩
  | cons x xs =>
    cases rx
    cases ry
    obtain ⟨its, rv, pl, _⟩ := I.list ha
    obtain ⟨its2, rv2, pl2, _⟩ := I.list (SqL.of hb)
    cases rv2
    cases rv
    exact SeqAt.slb_rn_ne pl.isList pl2.isList (by simp) (by omega) _ _ ⟨.bl true, H, I, rfl, q⟩
end
/-! zip of two tuples, walked -/
theorem walk_zipT {K : PySem.W.Frag} {a b : Addr} {xs ys : List V} {n : Nat} (hn : n = min xs.length ys.length) : Walk (RZ.ItzT K a b) n (fun H => SqT K H a xs ∧ SqT K H b ys) (YPair (fun i => xs[i]?) (fun i => ys[i]?)) := by
  subst hn
  refine ⟨fun i _ hi q => ?_, fun _ q => ⟨xs, ys, q.1, q.2, by omega⟩, fun i H v H' _ q y => ?_⟩
  · have h1 : i < xs.length := by omega
    have h2 : i < ys.length := by omega
    exact ⟨xs, ys, xs[i], ys[i], q.1, q.2, by simp [h1], by simp [h2]⟩
  · obtain ⟨T, x, z, h1, h2, h3, h4, h5⟩ := y
    exact ⟨T, x, z, h1, h2, h3, h4 xs q.1, h5 ys q.2⟩
end SL
set_option maxHeartbeats 4000000
namespace SL
open PySem PySem.Spec PyProof.Rows L2
theorem atKey_none {κ : Type} [DecidableEq κ] {xs : List (κ × Addr × Value)} {k : κ} (h : k ∉ xs.map (·.1)) : atKey xs k = none :=
  atKey_none_of_get fun j p e => h (List.mem_map.mpr ⟨(k, p), List.mem_of_getElem? e, rfl⟩)
theorem storedAll_nd {κ : Type} [DecidableEq κ] : ∀ (ps acc : List (κ × Addr × Value)), ((acc ++ ps).map (·.1)).Nodup → storedAllH acc ps = acc ++ ps
  | [], acc, _ => by simp [storedAllH]
  | p :: ps, acc, h => by
    have hn : p.1 ∉ acc.map (·.1) := by
      intro hm
      rw [List.map_append, List.map_cons] at h
      exact (List.nodup_append.mp h).2.2 _ hm _ List.mem_cons_self rfl
    have e1 : storedAllH acc (p :: ps) = storedAllH (acc ++ [p]) ps := by
      show storedAllH (storedH acc p.1 p.2.1 p.2.2) ps = _
      rw [storedH_new (atKey_none hn)]
    rw [e1, storedAll_nd ps (acc ++ [p]) (by rw [List.append_assoc]; exact h), List.append_assoc]
    rfl
section
variable {X : Cx}
/-- the pairs as they stand in the heap -/
theorem pairsT_of {pins : List (Addr × Obj)} {σ : L2.St} {H : Hp} {s : Shared} (I : Inv X pins σ H s) : ∀ {ps : List (Addr × Addr)} {kvs : List (List Key × V)},
    Paired (fun p kv => SqT X.K H p.1 [.ref p.2, kv.2] ∧ H p.2 = some (.tup (kv.1.map kV))) ps kvs →
    ∃ xs : List (List Key × Addr × Value), xs.length = ps.length ∧ xs.map (·.1) = kvs.map (·.1) ∧ Paired (fun (p : List Key × V) (q : List Key × Addr × Value) => p.1 = q.1 ∧ H q.2.1 = some (.tup (p.1.map kV)) ∧ RelV p.2 q.2.2) kvs xs ∧
      (∀ x ∈ xs, H x.2.1 = some (.tup (x.1.map kV))) ∧
      ∀ (j : Nat) (x : List Key × Addr × Value), xs[j]? = some x → ∃ b : Addr, (ps[j]?).map (·.1) = some b ∧ IsTup s.heap b #[.ref x.2.1, x.2.2]
  | _, _, .nil => ⟨[], rfl, rfl, .nil, fun _ h => absurd h (by simp), fun j q e => absurd e (by simp)⟩
  | _, _, .cons (a := p) (b := kv) h t => by
    obtain ⟨xs, hl, hk, pr, hm, hp⟩ := pairsT_of I t
    obtain ⟨its, rv, ht, _⟩ := I.tuple h.1
    obtain ⟨u, y, ei, ru, ry⟩ := vals2 rv
    subst ei
    cases ru
    refine ⟨(kv.1, p.2, y) :: xs, by rw [List.length_cons, List.length_cons, hl], by rw [List.map_cons, List.map_cons, hk], .cons ⟨rfl, h.2, ry⟩ pr, fun x hx => ?_, fun j q e => ?_⟩
    · rcases List.mem_cons.mp hx with rfl | hx
      · exact h.2
      · exact hm x hx
    · cases j with
      | zero =>
        have e' : (kv.1, p.2, y) = q := Option.some.inj e
        subst e'
        exact ⟨p.1, rfl, ht⟩
      | succ j =>
        obtain ⟨b, e1, e2⟩ := hp j q (by simpa using e)
        exact ⟨b, by simpa using e1, e2⟩
theorem call_dictT (hcalm : X.calm = true) (hu : X.A.units + 2 < cLine) : CallR X (.type "dict") (fun xs H Q => ∃ (a : Addr) (ps : List (Addr × Addr)) (kvs : List (List Key × V)), xs = [.ref a] ∧ SqL X.K H a (ps.map fun p => V.ref p.1) ∧
    Paired (fun p kv => SqT X.K H p.1 [.ref p.2, kv.2] ∧ H p.2 = some (.tup (kv.1.map kV))) ps kvs ∧ (kvs.map (·.1)).Nodup ∧
    ∀ p, H p = none → Q (.ref p) (upd H p (.dT kvs))) := by
  intro pins s σ H xs us Q I r q
  obtain ⟨a, ps, kvs, ex, hq, hp, nd, q⟩ := q
  subst ex
  obtain ⟨u, eu, rx⟩ := vals1 r
  subst eu
  cases rx
  obtain ⟨its, rv, pl, hz⟩ := I.list hq
  have ei : its = ps.map fun p => Value.ref p.1 := by
    have := refs_at (ps := ps.map (·.1)) (us := its) (by rw [List.map_map]; exact rv)
    rw [this, List.map_map]
    rfl
  subst ei
  rw [List.length_map] at hz
  obtain ⟨ys, hl, hk, pr, hm, hpr⟩ := pairsT_of I hp
  obtain ⟨o, n, ho, hc, hd, hdat⟩ := pl
  have A := PairArg.list (prog := X.prog) (w := X.w) a (ps.map fun p => Value.ref p.1).toArray (fun j => (ps.getD j (0, 0)).1) (ys.map fun y => (Value.ref y.2.1, y.2.2))
  have ndY : (ys.map (·.1)).Nodup := by rw [hk]; exact nd
  have key : ∀ (h' : Heap), (∀ b o, b ≠ s.heap.objs.size → s.heap.get? b = some o → h'.get? b = some o) → ∀ x ∈ ys, (tupleKind (mixKind X.prog X.w)).is h' x.1 x.2.1 := fun h' hk' x hx => by
    have k0 := key_of I.hok (hm x hx)
    obtain ⟨o, items, n, ho, hc, hd, hi⟩ := k0
    exact ⟨o, items, n, hk' _ _ (Nat.ne_of_lt (Heap.lt_size ho)) ho, hc, hd, hi⟩
  refine call_dict_pairsH (knd := tupleKind (mixKind X.prog X.w)) (ps := ys) A (I.ok.hd hcalm) (show X.A.in1.in1.units < cLine from hu) ⟨⟨o, n, ho, hc, hd, hdat⟩, ?_, ?_⟩ ⟨by rw [List.length_map], fun i key v hr => ?_⟩ ?_ (by rw [List.length_map, hl]; exact hz) fun h' tk hd' hk2 => ?_
  · rw [List.length_map, List.size_toArray, List.length_map, hl]
  · intro j k v e
    obtain ⟨y, hy, e2⟩ := Option.map_eq_some_iff.mp (List.getElem?_map .. ▸ e)
    have e3 : Value.ref y.2.1 = k ∧ y.2.2 = v := Prod.mk.inj e2
    obtain ⟨rfl, rfl⟩ := e3
    obtain ⟨b, hb, ht⟩ := hpr j y hy
    obtain ⟨p, hpj, rfl⟩ := Option.map_eq_some_iff.mp hb
    have e5 : (ps.getD j (0, 0)).1 = p.1 := by rw [List.getD_eq_getElem?_getD, hpj]; rfl
    refine ⟨?_, ?_⟩
    · show _ = some (Value.ref (ps.getD j (0, 0)).1)
      rw [e5]
      simp [hpj]
    · show PairAt _ (ps.getD j (0, 0)).1 _ _
      rw [e5]
      exact .inl ht
  · have hr' : (ys.map fun y => (Value.ref y.2.1, y.2.2))[i]? = some (key, v) := hr
    rw [List.getElem?_map] at hr'
    obtain ⟨y, hy, e2⟩ := Option.map_eq_some_iff.mp hr'
    have e3 : Value.ref y.2.1 = key ∧ y.2.2 = v := Prod.mk.inj e2
    obtain ⟨rfl, rfl⟩ := e3
    exact ⟨y.1, y.2.1, hy, rfl⟩
  · intro h' hk' x hx
    exact key h' (fun b o h1 h2 => hk' b o h1 (fun z => nomatch z) h2) x hx
  · rw [storedAll_nd ys [] (by simpa using ndY), List.nil_append] at hd'
    have hmod : (s.heap.objs.size == sysModules) = false := beq_eq_false_iff_ne.mpr (Nat.ne_of_gt I.big)
    have hnew : H s.heap.objs.size = none := I.hok.fresh (Nat.le_refl _)
    have hkv : kvs.length = ps.length := by
      have := congrArg List.length hk
      rw [List.length_map, List.length_map] at this
      omega
    refine ⟨.ref s.heap.objs.size, upd H s.heap.objs.size (.dT kvs), I.laid (t' := tk) (fun b u e => hk2 b u (fun z => nomatch z) e) (Nat.le_refl _) (show ObjOk X.prog X.w _ _ _ (.dT kvs) from ⟨by rw [hkv]; exact hz, hmod, ys, ?_, ?_⟩), rfl, q _ hnew⟩
    · have lift : ∀ {l : List (List Key × V)} {m : List (List Key × Addr × Value)}, Paired (fun (p : List Key × V) (q : List Key × Addr × Value) => p.1 = q.1 ∧ H q.2.1 = some (.tup (p.1.map kV)) ∧ RelV p.2 q.2.2) l m →
          Paired (fun (p : List Key × V) (q : List Key × Addr × Value) => p.1 = q.1 ∧ upd H s.heap.objs.size (.dT kvs) q.2.1 = some (.tup (p.1.map kV)) ∧ RelV p.2 q.2.2) l m := by
        intro l m z
        induction z with
        | nil => exact .nil
        | cons hz _ ih => exact .cons ⟨hz.1, by rw [upd_ne (ne_of_none hz.2.1 hnew)]; exact hz.2.1, hz.2.2⟩ ih
      exact lift pr
    · obtain ⟨o, es, ep, h1, h2, h3, h4, _, h6⟩ := hd'
      exact ⟨o, es, ep, h1, h2, h3, h4, h6⟩
end
end SL
set_option maxHeartbeats 4000000
/-! a head's facts, wider: defs by their addresses, properties, tables -/
namespace SL
open PySem PySem.Spec PyProof.Rows L2
structure DefA where
  at_ : PySem.W.Frag → Addr
  name : Str
  qual : Str
  params : Arguments
  body : List Stmt
  scope : Scope
def fnWA (K : PySem.W.Frag) (a : Addr) : He.FnW := match K.lookup a with
  | some ⟨_, _, .func fd, _⟩ => some (fd.name, fd.qualname, fd.params, fd.body, fd.scope, fd.globals, fd.closure, fd.builtins)
  | _ => none
def DefA.val (d : DefA) : He.FnW := some (d.name, d.qual, d.params, .stmts d.body, d.scope, mainGlobals, [], builtinsNs)
def DefA.ok (K : PySem.W.Frag) (d : DefA) : Bool := PySem.W.keepIn K (.ref (d.at_ K)) && (match K.lookup (d.at_ K) with
  | some ⟨_, _, .func fd, _⟩ => PySem.W.codeIn K fd.code d.qual && He.dflB K fd.defaults []
  | _ => false)
theorem DefA.funD {K : PySem.W.Frag} {d : DefA} (e : fnWA K (d.at_ K) = d.val) (c : d.ok K = true) : ∃ fd, FunD K d.name d.qual d.params d.body d.scope [] [] (d.at_ K) fd := by
  obtain ⟨kp, c2⟩ := He.ba c
  unfold fnWA at e
  cases q : K.lookup (d.at_ K) with
  | none =>
    rw [q] at c2
    cases c2
  | some o =>
    obtain ⟨oc, od, dt, osl⟩ := o
    rw [q] at c2 e
    cases dt with
    | func fd =>
      obtain ⟨n1, n2, n3, n4, n5, n6, n7, n8, n9, n10, n11, n12, n13, n14, n15⟩ := fd
      have e2 : (some (n1, n2, n3, n4, n5, n6, n7, n15) : He.FnW) = some (d.name, d.qual, d.params, .stmts d.body, d.scope, mainGlobals, [], builtinsNs) := e
      simp only [Option.some.injEq, Prod.mk.injEq] at e2
      obtain ⟨h1, h2, h3, h4, h5, h6, h7, h8⟩ := e2
      subst h1 h2 h3 h4 h5 h6 h7 h8
      have c3 : (PySem.W.codeIn K n13 d.qual && He.dflB K n8 []) = true := c2
      obtain ⟨k1, k2⟩ := He.ba c3
      exact ⟨_, ⟨oc, od, n8, n9, n10, n11, n12, n13, n14, osl, rfl, q, k1, He.dflB_ok k2, .inl rfl⟩, kp⟩
    | _ => cases c2
/-- a property's getter -/
def pga (K : PySem.W.Frag) (p : Addr) : Addr := match PySem.W.recIn K p "property" with
  | some (.ref g :: _) => g
  | _ => 0
def prB (K : PySem.W.Frag) (C : Addr) (m : Str) : Bool := dO (PySem.W.findIn K (.ref C) m) (some (some (.ref (He.ma K C m)))) && (dO (PySem.W.specialIn K (.ref (He.ma K C m)) "__get__") (some (some (.builtin "property.__get__"))) &&
  (dB (PySem.W.takesIn K (.ref (He.ma K C m))) && (match PySem.W.recIn K (He.ma K C m) "property" with
    | some (.ref _ :: _) => true
    | _ => false)))
theorem prB_ok {K : PySem.W.Frag} {C : Addr} {m : Str} (h : prB K C m = true) : PropOf K C m (He.ma K C m) (pga K (He.ma K C m)) := by
  unfold prB dO dB at h
  simp only [Bool.and_eq_true, decide_eq_true_eq] at h
  obtain ⟨h1, h2, h3, h4⟩ := h
  refine ⟨h1, h2, h3, ?_⟩
  unfold pga
  split at h4
  · rename_i g r e
    rw [e]
    exact ⟨r, rfl⟩
  · cases h4
/-- an own class as isinstance looks at it -/
structure IsC (K : PySem.W.Frag) (C : Addr) : Prop where
  ha : PySem.W.findIn K (.ref C) "__class__" = some (some (.builtin "object.__class__"))
  hn : PySem.W.specialIn K (.builtin "object.__class__") "__get__" = some (some (.builtin "getset_descriptor.__get__"))
  htk : PySem.W.takesIn K (.builtin "object.__class__") = some true
  hm : PySem.W.mroIn K C (.type "object") = some true
  ty : PySem.W.typeIn K (.ref C) = some (.type "type")
  cs : (PySem.W.clsIn K C).isSome = true
def isCB (K : PySem.W.Frag) (C : Addr) : Bool := dO (PySem.W.findIn K (.ref C) "__class__") (some (some (.builtin "object.__class__"))) && (dO (PySem.W.specialIn K (.builtin "object.__class__") "__get__") (some (some (.builtin "getset_descriptor.__get__"))) &&
  (dB (PySem.W.takesIn K (.builtin "object.__class__")) && (dB (PySem.W.mroIn K C (.type "object")) && (decide (PySem.W.typeIn K (.ref C) = some (.type "type")) && (PySem.W.clsIn K C).isSome))))
theorem isCB_ok {K : PySem.W.Frag} {C : Addr} (h : isCB K C = true) : IsC K C := by
  unfold isCB dO dB at h
  simp only [Bool.and_eq_true, decide_eq_true_eq] at h
  obtain ⟨h1, h2, h3, h4, h5, h6⟩ := h
  exact ⟨h1, h2, h3, h4, h5, h6⟩
theorem IsC.tyx {K : PySem.W.Frag} {C a dx : Addr} {fs : List (Str × V)} {H : Hp} (c : IsC K C) (cl : Cls K C) (e : H a = some (.ins C dx fs)) : TyX K H (.ref a) (.ref C) := .base (.ins e cl c.ha c.hn c.htk c.hm)
/-- isinstance(x, C) of its own instance, of a built-in's -/
theorem IsC.self {K : PySem.W.Frag} {C : Addr} : PySem.W.kitOne K (.ref C) (.ref C) = some true := by
  unfold PySem.W.kitOne
  rw [beq_self_eq_true, if_pos rfl]
/-! the Hook -/
abbrev AlZ : Type := ((Bool × List He.FnW) × List (Option (List (Option (Str × Int))))) × FnI × Bool
def obsZ (fa : List He.Fa) (fn : List DefA) (ts : List He.Tab) (fI : PySem.W.Frag → Addr) (ex : PySem.W.Frag → Bool) (K : PySem.W.Frag) : AlZ :=
  ((((fa.all fun f => f.ok K) && fn.all fun d => d.ok K, fn.map fun d => fnWA K (d.at_ K)), ts.map fun t => He.dicW K (t.1 K)), fnI K (fI K), ex K)
def valZ (fn : List DefA) (ts : List He.Tab) (iv : FnI) (w : World) : AlZ := (((true, fn.map DefA.val), ts.map fun t => some (He.keysIn w.params t.2)), iv, true)
def SaysZ (fa : List He.Fa) (fn : List DefA) (ts : List He.Tab) (fI : PySem.W.Frag → Addr) (iv : FnI) (ex : PySem.W.Frag → Bool) (w : World) (K : PySem.W.Frag) : Prop := obsZ fa fn ts fI ex K = valZ fn ts iv w
def hookZ (n : Nat) (fa : List He.Fa) (fn : List DefA) (ts : List He.Tab) (fI : PySem.W.Frag → Addr) (iv : FnI) (ex : PySem.W.Frag → Bool) : PySem.W.Hook where
  α := AlZ
  obs := fun s => obsZ fa fn ts fI ex (fragX n s.heap.get?)
  val := fun w => valZ fn ts iv w
  says := fun w h => ∃ K : PySem.W.Frag, K.In h ∧ SaysZ fa fn ts fI iv ex w K
  of := fun _ _ e => ⟨_, He.frG_in, e⟩
  keeps := fun _ _ _ ⟨K, hK, c⟩ k => ⟨K, PySem.W.Frag.In.keeps hK k, c⟩
theorem obsZ_eq {n : Nat} {fa : List He.Fa} {fn : List DefA} {ts : List He.Tab} {fI : PySem.W.Frag → Addr} {iv : FnI} {ex : PySem.W.Frag → Bool} {g : Addr → Option Obj} {s : Shared} (h : ∀ a, g a = s.heap.get? a) :
    obsZ fa fn ts fI ex (fragX n g) = (hookZ n fa fn ts fI iv ex).obs s := by
  have e : g = s.heap.get? := funext h
  rw [e] <;> rfl
section
variable {fa : List He.Fa} {fn : List DefA} {ts : List He.Tab} {fI : PySem.W.Frag → Addr} {iv : FnI} {ex : PySem.W.Frag → Bool} {w : World} {K : PySem.W.Frag}
theorem SaysZ.fact (c : SaysZ fa fn ts fI iv ex w K) (i : Nat) {f : He.Fa} (h : fa[i]? = some f := by rfl) : f.ok K = true := by
  have c1 := (He.ba (show ((fa.all fun f => f.ok K) && fn.all fun d => d.ok K) = true from congrArg (fun z : AlZ => z.1.1.1) c)).1
  exact List.all_eq_true.mp c1 f (List.mem_of_getElem? h)
theorem SaysZ.def_ (c : SaysZ fa fn ts fI iv ex w K) (i : Nat) {d : DefA} (h : fn[i]? = some d := by rfl) : ∃ fd, FunD K d.name d.qual d.params d.body d.scope [] [] (d.at_ K) fd := by
  have c2 := (He.ba (show ((fa.all fun f => f.ok K) && fn.all fun d => d.ok K) = true from congrArg (fun z : AlZ => z.1.1.1) c)).2
  have e : fn.map (fun d => fnWA K (d.at_ K)) = fn.map DefA.val := congrArg (fun z : AlZ => z.1.1.2) c
  have e2 : (fn.map fun d => fnWA K (d.at_ K))[i]? = (fn.map DefA.val)[i]? := by rw [e]
  rw [List.getElem?_map, List.getElem?_map, h] at e2
  exact DefA.funD (Option.some.inj e2) (List.all_eq_true.mp c2 d (List.mem_of_getElem? h))
theorem SaysZ.tab (c : SaysZ fa fn ts fI iv ex w K) (i : Nat) {t : He.Tab} (h : ts[i]? = some t := by rfl) : ∃ es n, KDict K w (t.1 K) es n := by
  have e : ts.map (fun t => He.dicW K (t.1 K)) = ts.map fun t => some (He.keysIn w.params t.2) := congrArg (fun z : AlZ => z.1.2) c
  have e2 : (ts.map fun t => He.dicW K (t.1 K))[i]? = (ts.map fun t => some (He.keysIn w.params t.2))[i]? := by rw [e]
  rw [List.getElem?_map, List.getElem?_map, h] at e2
  exact He.dicW_ok (Option.some.inj e2)
theorem SaysZ.ini (c : SaysZ fa fn ts fI iv ex w K) : fnI K (fI K) = iv := congrArg (fun z : AlZ => z.2.1) c
theorem SaysZ.exB (c : SaysZ fa fn ts fI iv ex w K) : ex K = true := congrArg (fun z : AlZ => z.2.2) c
end
/-! a promise with how it is called -/
def Has (P : Program) (w : World) (K : PySem.W.Frag) (mg : Str → Option Value) (base : Heap) (CX : CXT) (k : Nat) (f : Addr) (ps : List Str) (sp : Sp) : Prop :=
  ∃ fd, FnOk P w K mg base CX k f fd ps sp ∧ Binds K fd ps [] ∧ PySem.W.keepIn K (.ref f) = true
def HasG (P : Program) (w : World) (K : PySem.W.Frag) (mg : Str → Option Value) (base : Heap) (CX : CXT) (k : Nat) (f : Addr) (ps : List Str) (sp : Sp) : Prop :=
  ∃ fd, FnG P w K mg base CX k f fd ps sp ∧ Binds K fd ps [] ∧ PySem.W.keepIn K (.ref f) = true
end SL
set_option maxHeartbeats 4000000
/-! promises by their number of arguments; constants; comprehensions whose items are told one by one -/
namespace SL
open PySem PySem.Spec PyProof.Rows L2
def sp0 (f : Hp → VK → XK → Prop) : Sp := fun vs H Q E => vs = [] ∧ f H Q E
def sp1 (f : V → Hp → VK → XK → Prop) : Sp := fun vs H Q E => ∃ a, vs = [a] ∧ f a H Q E
def sp2 (f : V → V → Hp → VK → XK → Prop) : Sp := fun vs H Q E => ∃ a b, vs = [a, b] ∧ f a b H Q E
def sp3 (f : V → V → V → Hp → VK → XK → Prop) : Sp := fun vs H Q E => ∃ a b c, vs = [a, b, c] ∧ f a b c H Q E
def sp4 (f : V → V → V → V → Hp → VK → XK → Prop) : Sp := fun vs H Q E => ∃ a b c d, vs = [a, b, c, d] ∧ f a b c d H Q E
def sp5 (f : V → V → V → V → V → Hp → VK → XK → Prop) : Sp := fun vs H Q E => ∃ a b c d e, vs = [a, b, c, d, e] ∧ f a b c d e H Q E
theorem sp0_len {f : Hp → VK → XK → Prop} {vs : List V} {H : Hp} {Q : VK} {E : XK} (h : sp0 f vs H Q E) : vs.length = 0 := by obtain ⟨rfl, _⟩ := h; rfl
theorem sp1_len {f : V → Hp → VK → XK → Prop} {vs : List V} {H : Hp} {Q : VK} {E : XK} (h : sp1 f vs H Q E) : vs.length = 1 := by obtain ⟨a, rfl, _⟩ := h; rfl
theorem sp2_len {f : V → V → Hp → VK → XK → Prop} {vs : List V} {H : Hp} {Q : VK} {E : XK} (h : sp2 f vs H Q E) : vs.length = 2 := by obtain ⟨a, b, rfl, _⟩ := h; rfl
theorem sp3_len {f : V → V → V → Hp → VK → XK → Prop} {vs : List V} {H : Hp} {Q : VK} {E : XK} (h : sp3 f vs H Q E) : vs.length = 3 := by obtain ⟨a, b, c, rfl, _⟩ := h; rfl
theorem sp4_len {f : V → V → V → V → Hp → VK → XK → Prop} {vs : List V} {H : Hp} {Q : VK} {E : XK} (h : sp4 f vs H Q E) : vs.length = 4 := by obtain ⟨a, b, c, d, rfl, _⟩ := h; rfl
theorem sp5_len {f : V → V → V → V → V → Hp → VK → XK → Prop} {vs : List V} {H : Hp} {Q : VK} {E : XK} (h : sp5 f vs H Q E) : vs.length = 5 := by obtain ⟨a, b, c, d, e, rfl, _⟩ := h; rfl
section
variable {X : Cx}
theorem pe_cI {x : Str} {i : Int} {pos : Pos} (hg : Gl X x) (h : ∃ t, X.mg x = some (.int i t)) (hd : (x == ("__debug__" : Str)) = false := by decide) : PE X (.Name x pos) (tC (.int i)) := by
  obtain ⟨t, h⟩ := h
  exact pe_glob hg h ⟨_, rfl⟩ hd
theorem pe_cS {x z : Str} {pos : Pos} (hg : Gl X x) (h : ∃ t, X.mg x = some (.str z t)) (hd : (x == ("__debug__" : Str)) = false := by decide) : PE X (.Name x pos) (tC (.str z)) := by
  obtain ⟨t, h⟩ := h
  exact pe_glob hg h ⟨_, rfl⟩ hd
end
/-! frozen data: no list, no dict within -/
mutual
def fz : PyData → Bool
  | .list _ => false
  | .dict _ => false
  | .tuple ds => fzAll ds
  | _ => true
def fzAll : List PyData → Bool
  | [] => true
  | d :: ds => fz d && fzAll ds
end
theorem fzAll_iff : ∀ {ds : List PyData}, fzAll ds = true ↔ ∀ d ∈ ds, fz d = true
  | [] => by simp [fzAll]
  | d :: ds => by simp [fzAll, fzAll_iff (ds := ds)]
/-- tuples stay -/
def Tk (H H' : Hp) : Prop := ∀ b xs, H b = some (.tup xs) → H' b = some (.tup xs)
theorem Tk.refl (H : Hp) : Tk H H := fun _ _ h => h
theorem Tk.trans {H H1 H2 : Hp} (a : Tk H H1) (b : Tk H1 H2) : Tk H H2 := fun c o h => b c o (a c o h)
theorem Same.tk {H H' : Hp} (e : Same H H') : Tk H H' := fun b _ h => e b _ h
theorem Tk.upd {H : Hp} {p : Addr} {o : HO} (h : ∀ xs, H p ≠ some (.tup xs)) : Tk H (L2.upd H p o) := fun b xs hb => by
  rw [upd_ne fun e => h xs (by rw [← e]; exact hb)]
  exact hb
theorem Tk.updL {H : Hp} {p : Addr} {l : List V} {o : HO} (h : H p = some (.lst l)) : Tk H (L2.upd H p o) := Tk.upd fun xs e => by rw [h] at e; cases e
theorem Kp.tk {p : Addr} {H H' : Hp} {l : List V} (e : Kp p H H') (h : H p = some (.lst l)) : Tk H H' := fun b xs hb => e b _ (fun z => by rw [z, h] at hb; cases hb) hb
mutual
theorem Rv.tk {H H' : Hp} (e : Tk H H') : ∀ {v : V} {d : PyData}, Rv H v d → fz d = true → Rv H' v d
  | _, _, .non, _ => .non
  | _, _, .bl b, _ => .bl b
  | _, _, .int i, _ => .int i
  | _, _, .str x, _ => .str x
  | _, _, .lst h r, f => by simp [fz] at f
  | _, _, .tup h r, f => .tup (e _ _ h) (RvL.tk e r (by simpa [fz] using f))
  | _, _, .dK h k r, f => by simp [fz] at f
theorem RvL.tk {H H' : Hp} (e : Tk H H') : ∀ {vs : List V} {ds : List PyData}, RvL H vs ds → fzAll ds = true → RvL H' vs ds
  | _, _, .nil, _ => .nil
  | _, _, .cons h r, f => by
    simp only [fzAll, Bool.and_eq_true] at f
    exact .cons (Rv.tk e h f.1) (RvL.tk e r f.2)
end
theorem RvL.get {H : Hp} : ∀ {vs : List V} {ds : List PyData} {i : Nat} {d : PyData}, RvL H vs ds → ds[i]? = some d → ∃ v, vs[i]? = some v ∧ Rv H v d
  | _, _, _, _, .nil, e => by simp at e
  | _, _, 0, _, .cons h r, e => by
    have := Option.some.inj (show some _ = some _ from e)
    subst this
    exact ⟨_, rfl, h⟩
  | _, _, i + 1, _, .cons h r, e => by
    obtain ⟨v, e1, e2⟩ := RvL.get r (i := i) (by simpa using e)
    exact ⟨v, by simpa using e1, e2⟩
theorem RvL.toInts {H : Hp} : ∀ {vs : List V} {ns : List Int}, RvL H vs (ns.map PyData.int) → vs = ns.map V.int
  | _, [], h => by cases h; rfl
  | _, n :: ns, h => by
    cases h with
    | cons h1 h2 =>
      cases h1
      rw [RvL.toInts h2]
      rfl
theorem RvL.toStrs {H : Hp} : ∀ {vs : List V} {ns : List Str}, RvL H vs (ns.map PyData.str) → vs = ns.map V.str
  | _, [], h => by cases h; rfl
  | _, n :: ns, h => by
    cases h with
    | cons h1 h2 =>
      cases h1
      rw [RvL.toStrs h2]
      rfl
theorem RvL.app {H : Hp} : ∀ {vs ws : List V} {ds es : List PyData}, RvL H vs ds → RvL H ws es → RvL H (vs ++ ws) (ds ++ es)
  | _, _, _, _, .nil, h => h
  | _, _, _, _, .cons a r, h => .cons a (RvL.app r h)
/-! comprehensions -/
theorem fm_succ {α : Type} (f : Nat → Option α) (i : Nat) : (List.range (i + 1)).filterMap f = (List.range i).filterMap f ++ (f i).toList := by
  rw [List.range_succ, List.filterMap_append]
  cases h : f i <;> simp [List.filterMap_cons, h]
theorem fm_len {α : Type} (f : Nat → Option α) (n : Nat) : ((List.range n).filterMap f).length ≤ n := Nat.le_trans (List.length_filterMap_le _ _) (by simp)
section
variable {J : It} {n : Nat} {G : Hp → Prop} {Y : Nat → Hp → V → Hp → Prop} {g : TG} {tt : TT} {te : TE} {vs : List Nat} {σ : L2.St} {H1 : Hp} {D : Addr} {Qd : Hp → Prop}
/-- item i is f i, or is left out; nothing that stands is changed -/
theorem lc_fm (w : Walk J n G Y) (f : Nat → Option V) (hD : H1 D = none) (hn : n ≤ sizeLine) (hG : ∀ H, Same H1 H → G H)
    (hs : ∀ i x H H' (Ky : V → Hp → Prop) (Kn : Hp → Prop), i < n → Same H1 H → Y i H x H' → (∀ y H4, f i = some y → Same H H4 → Ky y H4) → (∀ H3, f i = none → Same H H3 → Kn H3) →
      g x (wipe σ vs) H' fun σ2 H2 => wipe σ2 vs = wipe σ vs ∧ tt σ2 H2 fun b H3 => if b = true then te σ2 H3 Ky else Kn H3)
    (hd : ∀ H, Same H1 H → H D = some (.lst ((List.range n).filterMap f)) → Qd H) :
    ∃ W : Nat → Nat → Hp → Prop, (∃ m, W 0 m (upd H1 D (.lst []))) ∧ ∀ i m H, W i m H →
      (J.stop i H ∧ Qd H) ∨ (J.go i H ∧ ∃ Nx : Hp → Prop, (∀ H', Nx H' → ∃ m', m' < m ∧ W (i + 1) m' H') ∧ ∀ x H', J.yld i H x H' → g x (wipe σ vs) H' fun σ2 H2 => wipe σ2 vs = wipe σ vs ∧ tt σ2 H2 fun b H3 =>
        if b = true then te σ2 H3 fun y H4 => ∃ acc, H4 D = some (.lst acc) ∧ acc.length < sizeLine ∧ Nx (upd H4 D (.lst (acc ++ [y]))) else Nx H3) := by
  refine lc_it w (fun i H => Same H1 H ∧ H D = some (.lst ((List.range i).filterMap f))) ⟨same_new hD, upd_same⟩ (fun i H _ p => hG H p.1) ?_ (fun H p => hd H p.1 p.2)
  rintro i x H H' hi ⟨s1, hl⟩ y
  refine hs i x H H' _ _ hi s1 y (fun y H4 e s4 => ?_) (fun H3 e s3 => ⟨s1.trans s3, ?_⟩)
  · refine ⟨_, s4 _ _ hl, Nat.lt_of_le_of_lt (fm_len f i) (by omega), ?_, ?_⟩
    · intro b o hb
      rw [upd_ne (ne_of_none hb hD)]
      exact s4 _ _ (s1 _ _ hb)
    · rw [upd_same, fm_succ, e]
      rfl
  · rw [s3 _ _ hl, fm_succ, e]
    simp
/-- item i shows the frozen data f i, or is left out -/
theorem lc_fz (w : Walk J n G Y) (f : Nat → Option PyData) (hf : ∀ i d, f i = some d → fz d = true) (hD : H1 D = none) (hn : n ≤ sizeLine) (hG : ∀ H, Same H1 H → G H)
    (hs : ∀ i x H H' (Ky : V → Hp → Prop) (Kn : Hp → Prop), i < n → Same H1 H → Y i H x H' → (∀ y d H4, f i = some d → Rv H4 y d → Same H H4 → Ky y H4) → (∀ H3, f i = none → Same H H3 → Kn H3) →
      g x (wipe σ vs) H' fun σ2 H2 => wipe σ2 vs = wipe σ vs ∧ tt σ2 H2 fun b H3 => if b = true then te σ2 H3 Ky else Kn H3)
    (hd : ∀ H l, Same H1 H → H D = some (.lst l) → RvL H l ((List.range n).filterMap f) → Qd H) :
    ∃ W : Nat → Nat → Hp → Prop, (∃ m, W 0 m (upd H1 D (.lst []))) ∧ ∀ i m H, W i m H →
      (J.stop i H ∧ Qd H) ∨ (J.go i H ∧ ∃ Nx : Hp → Prop, (∀ H', Nx H' → ∃ m', m' < m ∧ W (i + 1) m' H') ∧ ∀ x H', J.yld i H x H' → g x (wipe σ vs) H' fun σ2 H2 => wipe σ2 vs = wipe σ vs ∧ tt σ2 H2 fun b H3 =>
        if b = true then te σ2 H3 fun y H4 => ∃ acc, H4 D = some (.lst acc) ∧ acc.length < sizeLine ∧ Nx (upd H4 D (.lst (acc ++ [y]))) else Nx H3) := by
  have fzs : ∀ i, fzAll ((List.range i).filterMap f) = true := fun i => fzAll_iff.mpr fun d hd' => by
    obtain ⟨j, _, e⟩ := List.mem_filterMap.mp hd'
    exact hf j d e
  refine lc_it w (fun i H => Same H1 H ∧ ∃ l, H D = some (.lst l) ∧ RvL H l ((List.range i).filterMap f)) ⟨same_new hD, [], upd_same, .nil⟩ (fun i H _ p => hG H p.1) ?_ (fun H ⟨p, l, h1, h2⟩ => hd H l p h1 h2)
  rintro i x H H' hi ⟨s1, l, hl, rl⟩ y
  have ll : l.length ≤ i := by rw [rl.length]; exact fm_len f i
  refine hs i x H H' _ _ hi s1 y (fun y d H4 e ry s4 => ?_) (fun H3 e s3 => ⟨s1.trans s3, l, s3 _ _ hl, ?_⟩)
  · have hl4 := s4 _ _ hl
    have t5 : Tk H4 (upd H4 D (.lst (l ++ [y]))) := Tk.updL hl4
    refine ⟨l, hl4, Nat.lt_of_le_of_lt ll (by omega), ?_, l ++ [y], upd_same, ?_⟩
    · intro b o hb
      rw [upd_ne (ne_of_none hb hD)]
      exact s4 _ _ (s1 _ _ hb)
    · rw [fm_succ, e]
      exact ((rl.same s4).tk t5 (fzs i)).snoc (ry.tk t5 (hf i d e))
  · rw [fm_succ, e]
    simpa using rl.same s3
end
theorem fm_some {α : Type} {n : Nat} (f : Nat → α) : (List.range n).filterMap (fun i => some (f i)) = (List.range n).map f := by
  rw [← List.filterMap_eq_map]
  rfl
/-- item i of xs through f -/
theorem map_get {α β : Type} (xs : List α) (f : α → β) (d : β) : (List.range xs.length).map (fun i => (xs[i]?.map f).getD d) = xs.map f := by
  refine List.ext_getElem? fun i => ?_
  rw [List.getElem?_map, List.getElem?_map]
  by_cases h : i < xs.length
  · rw [List.getElem?_range h, List.getElem?_eq_getElem h]
    simp [List.getElem?_eq_getElem h]
  · rw [List.getElem?_eq_none (by simpa using h), List.getElem?_eq_none (by simpa using h)]
    rfl
/-- the items of xs that pass, through f -/
theorem fm_get {α β : Type} (f : α → Option β) : ∀ xs : List α, (List.range xs.length).filterMap (fun i => (xs[i]?).bind f) = xs.filterMap f
  | [] => rfl
  | x :: xs => by
    rw [List.length_cons, List.range_succ_eq_map, List.filterMap_cons, List.filterMap_map]
    have e : ((fun i => ((x :: xs)[i]?).bind f) ∘ Nat.succ) = fun i => (xs[i]?).bind f := by
      funext i
      simp
    rw [e, fm_get f xs]
    simp only [List.getElem?_cons_zero, Option.bind_some, List.filterMap_cons]
end SL
set_option maxHeartbeats 4000000
/-! rules with the written part named (within comprehensions) -/
namespace SL
open PySem PySem.Spec PyProof.Rows L2
section
variable {X : Cx} {K : PySem.W.Frag}
theorem pe_fldK {e : Expr} {f : Str} {pos : Pos} {ta : TE} (hK : X.K = K) (ha : PE X e ta) (hb : attributeBase e f X.env (eval e X.env) = eval e X.env) : PE X (.Attribute e f pos) (tFld K ta f) := by subst hK; exact pe_fld ha hb
theorem ix_listK (hK : X.K = K) : IxR X (rIxL K) := by subst hK; exact ix_list
theorem ix_tupK (hK : X.K = K) : IxR X (rIxT K) := by subst hK; exact ix_tup
theorem call_lenK (hK : X.K = K) : CallR X (.builtin "len") (fun xs H Q => ∃ x n, xs = [x] ∧ LenV K x H n ∧ Q (.int n) H) := by subst hK; exact call_len
theorem call_isiK2 (hK : X.K = K) : CallR X (.builtin "isinstance") (rIsi K) := by subst hK; exact call_isi
theorem op_in_seqK (hK : X.K = K) : OpR X (compareOp .In) (rIn K false) := by subst hK; exact op_in_seq
theorem op_notIn_seqK (hK : X.K = K) : OpR X (compareOp .NotIn) (rIn K true) := by subst hK; exact op_notIn_seq
theorem op_eqDK (hK : X.K = K) (hu : X.A.units + 64 < cLine) : OpR X (compareOp .Eq) (rEqD K) := by subst hK; exact op_eqD hu
theorem mt_indexK (hK : X.K = K) : MtR X "list.index" (rIndex K) := by subst hK; exact mt_index
theorem pe_bmK {T : String} {name : Str} {id : String} {o e : Expr} {es : List Expr} {to : TE} {t : TA} {r : V → List V → Hp → VK → Prop} {apos cpos : Pos} (hK : X.K = K) (pa : PlainAttrs T) (slot : Slot T name id) (hty : typeOf (.builtin id) = pure (.type "method_descriptor")) (hm : MtR X id r) (ho : PE X o to) (ha : PA X (e :: es) t)
    (hbase : attributeBase o name X.env (eval o X.env) = eval o X.env := by rfl)
    (hfew : ((backTo cpos (starEach (e :: es) X.env)).all (fun x => !x.1) && (backToKw cpos (keywordEach [] X.env)).all (fun x => x.1.isSome)
      && decide ((e :: es).length + ([] : List Keyword).length + (if ([] : List Keyword).isEmpty then 0 else 1) < 30)) = true := by rfl)
    (hline : (apos.endLine == cpos.line) = true := by rfl) (hs : starEach (e :: es) X.env = (false, eval e X.env) :: starEach es X.env := by rfl) (hplain : (backTo cpos (starEach es X.env)).any (·.1) = false := by rfl) :
    PE X (.Call (.Attribute o name apos) (e :: es) [] cpos) (tBM K T r to t) := by
  subst hK
  exact pe_bm pa slot hty hm ho ha hbase hfew hline hs hplain
end
end SL
set_option maxHeartbeats 4000000
/-! raise C(e), C one of the errors -/
namespace SL
open PySem PySem.Spec PyProof.Rows L2
/-- what is wished of an error of the class C with the value v -/
def Rz (H : Hp) (E : XK) (C : Addr) (v : V) : Prop := ∀ d H', Same H H' → H d = none → H' d = some (.xd [("value", v)]) → E (.ref C) (some d) H'
theorem Rz.from {H H1 : Hp} {E : XK} {C : Addr} {v : V} (h : Rz H E C v) (s : Same H H1) : Rz H1 E C v := fun d H' s' hd hx => h d H' (s.trans s') (s.free hd) hx
section
variable {X : Cx} {D fI C : Addr} {x : Str} {p pos pos2 : Pos} {e : Expr} {te : TE} {E : XK}
theorem ps_raiseE (hI : ∃ fd, IniT X.prog X.K D fI fd ∧ fd.defaults = .none) (hsu : X.mg "super" = none) (T : ErrC X.K D fI C) (hr : Room 2 X.A) (hg : Gl X x) (hm : X.mg x = some (.ref C)) (hc : X.calm = true)
    (tk : Takes X (fun cls d _ H => E cls d H)) (he : PE X e te) (hdb : (x == ("__debug__" : Str)) = false := by decide) (hs : starEach [e] X.env = (false, eval e X.env) :: starEach [] X.env := by rfl) :
    PS X (.Raise (some (.Call (.Name x p) [e] [] pos)) none pos2) (fun _ σ H => tMkO C (spIni X.K D fI) [] (tCons te tNil) σ H fun cls d H' => E cls d H') := by
  obtain ⟨fd, I0, hdf⟩ := hI
  have F1 : FnOk X.prog X.w X.K X.mg X.base CX0 1 fI fd ["self", "value"] (spIni X.K D fI) := ok_ini I0 hsu
  have P := pmk_oex (p := p) (pos := pos) T.oex T.iC T.tI F1 hr (I0.binds hdf) .nil pass0 hg hm (pa_cons he pa_nil hs) hdb hs
  exact ps_raise (pos := pos2) hc tk P
end
theorem Rz.fin {K : PySem.W.Frag} {D fI C : Addr} {H : Hp} {E : XK} {v : V} (T : ErrC K D fI C) (h : Rz H E C v) : [v].length ≤ 1000 ∧ ∀ a, H a = none → spIni K D fI (.ref a :: ([v] ++ [])) (upd H a (exo a C none))
    (fun u H2 => u = .non ∧ ∃ (d : Addr) (fs : List (Str × V)), H2 a = some (exo a C (some d)) ∧ H2 d = some (exd d fs) ∧ H d = none ∧ E (.ref C) (some d) (upd (del H2 a) d (.xd fs))) (fun _ _ _ => False) := by
  refine ⟨by show 1 ≤ 1000; decide, fun a ha => ⟨a, C, v, rfl, T, upd_same, fun dx hdx hne => ⟨rfl, dx, [("value", v)], upd_same, ?_, ?_, ?_⟩⟩⟩
  · rw [upd_ne hne, upd_same]
  · rw [upd_ne hne] at hdx
    exact hdx
  · rw [upd_ne hne] at hdx
    refine h dx _ (fun b o hb => ?_) hdx upd_same
    have n1 : b ≠ dx := ne_of_none hb hdx
    have n2 : b ≠ a := ne_of_none hb ha
    rw [upd_ne n1, del_ne n2, upd_ne n2, upd_ne n1, upd_ne n2]
    exact hb
/-- a def that may raise, called where it does not -/
theorem passNo {X : Cx} {P : Program} {w : World} : Passes (L2.CX P w) X E0 := fun _ _ _ _ _ _ _ h => by
  obtain ⟨_, _, _, _, _, _, _, _, _, _, _, _, z⟩ := h
  exact z.elim
end SL
set_option maxHeartbeats 4000000
namespace SK
open PySem PySem.Spec PyProof.Rows L2 SL
abbrev prg : Program := PySem.Challenge.pw_steadylabels_k02_whole_the_first_wrong_l
def top (i : Nat) : Stmt := prg.main.body.getD i (.Pass ⟨0, 0, 0, 0⟩)
abbrev FnM (K : PySem.W.Frag) (x q : Str) (st : Stmt) (f : Addr) : Prop := ∃ fd, FunD K x q (defArgs st) (defBody st) (defScope st) [] [] f fd
def fIn (K : PySem.W.Frag) : Addr := He.ma K (He.ga K "LabelError") "__init__"
abbrev d_wall : Stmt := top 0
abbrev d_is_integer : Stmt := top 11
abbrev d_is_between : Stmt := top 12
abbrev d_is_name : Stmt := top 13
abbrev d_whole_in : Stmt := top 14
abbrev d_are_sizes : Stmt := top 34
abbrev d_class_row : Stmt := top 35
abbrev d_read_style : Stmt := top 37
abbrev d_rank_pair : Stmt := top 38
abbrev d_law_pot : Stmt := top 41
abbrev d_law_take : Stmt := top 42
abbrev d_law_of : Stmt := top 43
abbrev d_law_name : Stmt := top 44
abbrev d_law_sizes : Stmt := top 45
abbrev d_law_classes : Stmt := top 46
abbrev d_law_pairs : Stmt := top 47
abbrev d_law_is_there : Stmt := top 48
abbrev d_law_pixel : Stmt := top 49
abbrev d_law_half : Stmt := top 50
abbrev d_law_distance : Stmt := top 51
abbrev d_law_lore : Stmt := top 52
abbrev d_law_text : Stmt := top 53
abbrev d_law_number : Stmt := top 54
abbrev d_law_is_name : Stmt := top 55
abbrev d_law_is_class : Stmt := top 56
abbrev d_law_two : Stmt := top 57
abbrev d_law_is_pair : Stmt := top 58
abbrev d_law_first_wrong : Stmt := top 59
abbrev d_law_word_spoilt : Stmt := top 60
abbrev d_law_line_spoilt : Stmt := top 61
abbrev d_law_spoilt : Stmt := top 62
abbrev d_law_told : Stmt := top 63
abbrev d_law_right : Stmt := top 64
abbrev d_law : Stmt := top 65
abbrev d_ClassRow_init : Stmt := inClass (top 33) 0
abbrev d_ClassRow_size_at : Stmt := inClass (top 33) 1
abbrev d_ClassRow_line : Stmt := inClass (top 33) 2
abbrev d_Reader_init : Stmt := inClass (top 36) 0
abbrev d_Reader_pair_of : Stmt := inClass (top 36) 1
abbrev d_Reader_take : Stmt := inClass (top 36) 2
abbrev d_Reader_take_zooms : Stmt := inClass (top 36) 3
abbrev d_Reader_take_class : Stmt := inClass (top 36) 4
abbrev d_Reader_take_beside : Stmt := inClass (top 36) 5
abbrev d_Reader_take_far : Stmt := inClass (top 36) 6
abbrev d_Style_init : Stmt := inClass (top 39) 0
abbrev d_Style_eq : Stmt := inClass (top 39) 1
abbrev d_Style_iter : Stmt := inClass (top 39) 2
abbrev d_Style_call : Stmt := inClass (top 39) 3
abbrev d_Style_text : Stmt := inClass (top 39) 4
abbrev d_Style_last : Stmt := inClass (top 39) 5
abbrev d_Style_classes : Stmt := inClass (top 39) 6
abbrev d_Style_check_zoom : Stmt := inClass (top 39) 7
abbrev d_Style_rank_of : Stmt := inClass (top 39) 8
abbrev d_Style_size : Stmt := inClass (top 39) 9
abbrev d_Style_letters : Stmt := inClass (top 39) 10
abbrev d_Style_competes : Stmt := inClass (top 39) 11
abbrev d_Style_far : Stmt := inClass (top 39) 12
abbrev d_Style_do_compete : Stmt := inClass (top 39) 13
abbrev d_Style_distance : Stmt := inClass (top 39) 14
/-- what the top leaves -/
structure Top (w : World) (K : PySem.W.Frag) (mg : Str → Option Value) : Prop where
  b_TypeError : mg "TypeError" = none
  b_ValueError : mg "ValueError" = none
  b_abs : mg "abs" = none
  b_all : mg "all" = none
  b_bool : mg "bool" = none
  b_dict : mg "dict" = none
  b_enumerate : mg "enumerate" = none
  b_int : mg "int" = none
  b_isinstance : mg "isinstance" = none
  b_len : mg "len" = none
  b_list : mg "list" = none
  b_max : mg "max" = none
  b_min : mg "min" = none
  b_property : mg "property" = none
  b_range : mg "range" = none
  b_repr : mg "repr" = none
  b_str : mg "str" = none
  b_super : mg "super" = none
  b_tuple : mg "tuple" = none
  b_zip : mg "zip" = none
  c_LETTERS : ∃ t, mg "LETTERS" = some (.str "abcdefghijklmnopqrstuvwxyz" t)
  c_FIGURES : ∃ t, mg "FIGURES" = some (.str "0123456789" t)
  c_MOST_LETTERS : ∃ t, mg "MOST_LETTERS" = some (.int 12 t)
  c_ZERO : ∃ t, mg "ZERO" = some (.str "0" t)
  c_ZOOMS : ∃ t, mg "ZOOMS" = some (.str "zooms" t)
  c_CLASS : ∃ t, mg "CLASS" = some (.str "class" t)
  c_BESIDE : ∃ t, mg "BESIDE" = some (.str "beside" t)
  c_FAR : ∃ t, mg "FAR" = some (.str "far" t)
  c_MOST_ZOOMS : ∃ t, mg "MOST_ZOOMS" = some (.int 5 t)
  c_MOST_CLASSES : ∃ t, mg "MOST_CLASSES" = some (.int 4 t)
  c_LEAST_SIZE : ∃ t, mg "LEAST_SIZE" = some (.int 2 t)
  c_MOST_SIZE : ∃ t, mg "MOST_SIZE" = some (.int 9 t)
  c_MOST_LEAST : ∃ t, mg "MOST_LEAST" = some (.int 9 t)
  c_MOST_MORE : ∃ t, mg "MOST_MORE" = some (.int 3 t)
  c_MOST_FAR : ∃ t, mg "MOST_FAR" = some (.int 9999 t)
  c_ZOOMS_WORDS : ∃ t, mg "ZOOMS_WORDS" = some (.int 2 t)
  c_CLASS_WORDS : ∃ t, mg "CLASS_WORDS" = some (.int 6 t)
  c_BESIDE_WORDS : ∃ t, mg "BESIDE_WORDS" = some (.int 3 t)
  c_FAR_WORDS : ∃ t, mg "FAR_WORDS" = some (.int 4 t)
  c_SIZES_AT : ∃ t, mg "SIZES_AT" = some (.int 5 t)
  g_wall : mg "_wall" = some (.ref (He.ga K "_wall"))
  g_is_integer : mg "is_integer" = some (.ref (He.ga K "is_integer"))
  g_is_between : mg "is_between" = some (.ref (He.ga K "is_between"))
  g_is_name : mg "is_name" = some (.ref (He.ga K "is_name"))
  g_whole_in : mg "whole_in" = some (.ref (He.ga K "whole_in"))
  g_are_sizes : mg "are_sizes" = some (.ref (He.ga K "are_sizes"))
  g_class_row : mg "class_row" = some (.ref (He.ga K "class_row"))
  g_read_style : mg "read_style" = some (.ref (He.ga K "read_style"))
  g_rank_pair : mg "rank_pair" = some (.ref (He.ga K "rank_pair"))
  g_law_pot : mg "_law_pot" = some (.ref (He.ga K "_law_pot"))
  g_law_take : mg "_law_take" = some (.ref (He.ga K "_law_take"))
  g_law_of : mg "_law_of" = some (.ref (He.ga K "_law_of"))
  g_law_name : mg "_law_name" = some (.ref (He.ga K "_law_name"))
  g_law_sizes : mg "_law_sizes" = some (.ref (He.ga K "_law_sizes"))
  g_law_classes : mg "_law_classes" = some (.ref (He.ga K "_law_classes"))
  g_law_pairs : mg "_law_pairs" = some (.ref (He.ga K "_law_pairs"))
  g_law_is_there : mg "_law_is_there" = some (.ref (He.ga K "_law_is_there"))
  g_law_pixel : mg "_law_pixel" = some (.ref (He.ga K "_law_pixel"))
  g_law_half : mg "_law_half" = some (.ref (He.ga K "_law_half"))
  g_law_distance : mg "_law_distance" = some (.ref (He.ga K "_law_distance"))
  g_law_lore : mg "_law_lore" = some (.ref (He.ga K "_law_lore"))
  g_law_text : mg "_law_text" = some (.ref (He.ga K "_law_text"))
  g_law_number : mg "_law_number" = some (.ref (He.ga K "_law_number"))
  g_law_is_name : mg "_law_is_name" = some (.ref (He.ga K "_law_is_name"))
  g_law_is_class : mg "_law_is_class" = some (.ref (He.ga K "_law_is_class"))
  g_law_two : mg "_law_two" = some (.ref (He.ga K "_law_two"))
  g_law_is_pair : mg "_law_is_pair" = some (.ref (He.ga K "_law_is_pair"))
  g_law_first_wrong : mg "_law_first_wrong" = some (.ref (He.ga K "_law_first_wrong"))
  g_law_word_spoilt : mg "_law_word_spoilt" = some (.ref (He.ga K "_law_word_spoilt"))
  g_law_line_spoilt : mg "_law_line_spoilt" = some (.ref (He.ga K "_law_line_spoilt"))
  g_law_spoilt : mg "_law_spoilt" = some (.ref (He.ga K "_law_spoilt"))
  g_law_told : mg "_law_told" = some (.ref (He.ga K "_law_told"))
  g_law_right : mg "_law_right" = some (.ref (He.ga K "_law_right"))
  g_law : mg "law" = some (.ref (He.ga K "law"))
  g_ClassRow : mg "ClassRow" = some (.ref (He.ga K "ClassRow"))
  g_Reader : mg "Reader" = some (.ref (He.ga K "Reader"))
  g_Style : mg "Style" = some (.ref (He.ga K "Style"))
  g_LabelError : mg "LabelError" = some (.ref (He.ga K "LabelError"))
  g_BadStyle : mg "BadStyle" = some (.ref (He.ga K "BadStyle"))
  g_NoClass : mg "NoClass" = some (.ref (He.ga K "NoClass"))
  g_BadZoom : mg "BadZoom" = some (.ref (He.ga K "BadZoom"))
  g_BEHIND : mg "BEHIND" = some (.ref (He.ga K "BEHIND"))
  cl_ClassRow : Cls K (He.ga K "ClassRow")
  cl_Reader : Cls K (He.ga K "Reader")
  cl_Style : Cls K (He.ga K "Style")
  mk_ClassRow : Mk K (He.ga K "ClassRow") (He.ma K (He.ga K "ClassRow") "__init__")
  mk_Reader : Mk K (He.ga K "Reader") (He.ma K (He.ga K "Reader") "__init__")
  mk_Style : Mk K (He.ga K "Style") (He.ma K (He.ga K "Style") "__init__")
  na_ClassRow_own_name : NoAttr K (He.ga K "ClassRow") "own_name"
  na_ClassRow_own_first : NoAttr K (He.ga K "ClassRow") "own_first"
  na_ClassRow_own_letters : NoAttr K (He.ga K "ClassRow") "own_letters"
  na_ClassRow_own_sizes : NoAttr K (He.ga K "ClassRow") "own_sizes"
  na_Reader_own_sort : NoAttr K (He.ga K "Reader") "own_sort"
  na_Reader_own_last : NoAttr K (He.ga K "Reader") "own_last"
  na_Reader_own_rows : NoAttr K (He.ga K "Reader") "own_rows"
  na_Reader_own_beside : NoAttr K (He.ga K "Reader") "own_beside"
  na_Reader_own_far : NoAttr K (He.ga K "Reader") "own_far"
  na_Style_own_text : NoAttr K (He.ga K "Style") "own_text"
  na_Style_own_last : NoAttr K (He.ga K "Style") "own_last"
  na_Style_own_rows : NoAttr K (He.ga K "Style") "own_rows"
  na_Style_own_ranks : NoAttr K (He.ga K "Style") "own_ranks"
  na_Style_own_beside : NoAttr K (He.ga K "Style") "own_beside"
  na_Style_own_far : NoAttr K (He.ga K "Style") "own_far"
  m_ClassRow_init : Meth K (He.ga K "ClassRow") "__init__" (He.ma K (He.ga K "ClassRow") "__init__")
  m_ClassRow_size_at : Meth K (He.ga K "ClassRow") "size_at" (He.ma K (He.ga K "ClassRow") "size_at")
  m_ClassRow_line : Meth K (He.ga K "ClassRow") "line" (He.ma K (He.ga K "ClassRow") "line")
  m_Reader_init : Meth K (He.ga K "Reader") "__init__" (He.ma K (He.ga K "Reader") "__init__")
  m_Reader_pair_of : Meth K (He.ga K "Reader") "pair_of" (He.ma K (He.ga K "Reader") "pair_of")
  m_Reader_take : Meth K (He.ga K "Reader") "take" (He.ma K (He.ga K "Reader") "take")
  m_Reader_take_zooms : Meth K (He.ga K "Reader") "take_zooms" (He.ma K (He.ga K "Reader") "take_zooms")
  m_Reader_take_class : Meth K (He.ga K "Reader") "take_class" (He.ma K (He.ga K "Reader") "take_class")
  m_Reader_take_beside : Meth K (He.ga K "Reader") "take_beside" (He.ma K (He.ga K "Reader") "take_beside")
  m_Reader_take_far : Meth K (He.ga K "Reader") "take_far" (He.ma K (He.ga K "Reader") "take_far")
  m_Style_init : Meth K (He.ga K "Style") "__init__" (He.ma K (He.ga K "Style") "__init__")
  m_Style_eq : Meth K (He.ga K "Style") "__eq__" (He.ma K (He.ga K "Style") "__eq__")
  m_Style_iter : Meth K (He.ga K "Style") "__iter__" (He.ma K (He.ga K "Style") "__iter__")
  m_Style_call : Meth K (He.ga K "Style") "__call__" (He.ma K (He.ga K "Style") "__call__")
  m_Style_check_zoom : Meth K (He.ga K "Style") "check_zoom" (He.ma K (He.ga K "Style") "check_zoom")
  m_Style_rank_of : Meth K (He.ga K "Style") "rank_of" (He.ma K (He.ga K "Style") "rank_of")
  m_Style_size : Meth K (He.ga K "Style") "size" (He.ma K (He.ga K "Style") "size")
  m_Style_letters : Meth K (He.ga K "Style") "letters" (He.ma K (He.ga K "Style") "letters")
  m_Style_competes : Meth K (He.ga K "Style") "competes" (He.ma K (He.ga K "Style") "competes")
  m_Style_far : Meth K (He.ga K "Style") "far" (He.ma K (He.ga K "Style") "far")
  m_Style_do_compete : Meth K (He.ga K "Style") "do_compete" (He.ma K (He.ga K "Style") "do_compete")
  m_Style_distance : Meth K (He.ga K "Style") "distance" (He.ma K (He.ga K "Style") "distance")
  sys : (K.lookup sysModules).isSome = true
  is_ClassRow : IsC K (He.ga K "ClassRow")
  is_Reader : IsC K (He.ga K "Reader")
  is_Style : IsC K (He.ga K "Style")
  p_Style_text : PropOf K (He.ga K "Style") "text" (He.ma K (He.ga K "Style") "text") (pga K (He.ma K (He.ga K "Style") "text"))
  p_Style_last : PropOf K (He.ga K "Style") "last" (He.ma K (He.ga K "Style") "last") (pga K (He.ma K (He.ga K "Style") "last"))
  p_Style_classes : PropOf K (He.ga K "Style") "classes" (He.ma K (He.ga K "Style") "classes") (pga K (He.ma K (He.ga K "Style") "classes"))
  er_LabelError : ErrC K (He.ga K "LabelError") (fIn K) (He.ga K "LabelError")
  er_BadStyle : ErrC K (He.ga K "LabelError") (fIn K) (He.ga K "BadStyle")
  er_NoClass : ErrC K (He.ga K "LabelError") (fIn K) (He.ga K "NoClass")
  er_BadZoom : ErrC K (He.ga K "LabelError") (fIn K) (He.ga K "BadZoom")
  F_wall : FnM K "_wall" "_wall" d_wall (He.ga K "_wall")
  F_is_integer : FnM K "is_integer" "is_integer" d_is_integer (He.ga K "is_integer")
  F_is_between : FnM K "is_between" "is_between" d_is_between (He.ga K "is_between")
  F_is_name : FnM K "is_name" "is_name" d_is_name (He.ga K "is_name")
  F_whole_in : FnM K "whole_in" "whole_in" d_whole_in (He.ga K "whole_in")
  F_are_sizes : FnM K "are_sizes" "are_sizes" d_are_sizes (He.ga K "are_sizes")
  F_class_row : FnM K "class_row" "class_row" d_class_row (He.ga K "class_row")
  F_read_style : FnM K "read_style" "read_style" d_read_style (He.ga K "read_style")
  F_rank_pair : FnM K "rank_pair" "rank_pair" d_rank_pair (He.ga K "rank_pair")
  F_law_pot : FnM K "_law_pot" "_law_pot" d_law_pot (He.ga K "_law_pot")
  F_law_take : FnM K "_law_take" "_law_take" d_law_take (He.ga K "_law_take")
  F_law_of : FnM K "_law_of" "_law_of" d_law_of (He.ga K "_law_of")
  F_law_name : FnM K "_law_name" "_law_name" d_law_name (He.ga K "_law_name")
  F_law_sizes : FnM K "_law_sizes" "_law_sizes" d_law_sizes (He.ga K "_law_sizes")
  F_law_classes : FnM K "_law_classes" "_law_classes" d_law_classes (He.ga K "_law_classes")
  F_law_pairs : FnM K "_law_pairs" "_law_pairs" d_law_pairs (He.ga K "_law_pairs")
  F_law_is_there : FnM K "_law_is_there" "_law_is_there" d_law_is_there (He.ga K "_law_is_there")
  F_law_pixel : FnM K "_law_pixel" "_law_pixel" d_law_pixel (He.ga K "_law_pixel")
  F_law_half : FnM K "_law_half" "_law_half" d_law_half (He.ga K "_law_half")
  F_law_distance : FnM K "_law_distance" "_law_distance" d_law_distance (He.ga K "_law_distance")
  F_law_lore : FnM K "_law_lore" "_law_lore" d_law_lore (He.ga K "_law_lore")
  F_law_text : FnM K "_law_text" "_law_text" d_law_text (He.ga K "_law_text")
  F_law_number : FnM K "_law_number" "_law_number" d_law_number (He.ga K "_law_number")
  F_law_is_name : FnM K "_law_is_name" "_law_is_name" d_law_is_name (He.ga K "_law_is_name")
  F_law_is_class : FnM K "_law_is_class" "_law_is_class" d_law_is_class (He.ga K "_law_is_class")
  F_law_two : FnM K "_law_two" "_law_two" d_law_two (He.ga K "_law_two")
  F_law_is_pair : FnM K "_law_is_pair" "_law_is_pair" d_law_is_pair (He.ga K "_law_is_pair")
  F_law_first_wrong : FnM K "_law_first_wrong" "_law_first_wrong" d_law_first_wrong (He.ga K "_law_first_wrong")
  F_law_word_spoilt : FnM K "_law_word_spoilt" "_law_word_spoilt" d_law_word_spoilt (He.ga K "_law_word_spoilt")
  F_law_line_spoilt : FnM K "_law_line_spoilt" "_law_line_spoilt" d_law_line_spoilt (He.ga K "_law_line_spoilt")
  F_law_spoilt : FnM K "_law_spoilt" "_law_spoilt" d_law_spoilt (He.ga K "_law_spoilt")
  F_law_told : FnM K "_law_told" "_law_told" d_law_told (He.ga K "_law_told")
  F_law_right : FnM K "_law_right" "_law_right" d_law_right (He.ga K "_law_right")
  F_law : FnM K "law" "law" d_law (He.ga K "law")
  F_ClassRow_init : FnM K "__init__" "ClassRow.__init__" d_ClassRow_init (He.ma K (He.ga K "ClassRow") "__init__")
  F_ClassRow_size_at : FnM K "size_at" "ClassRow.size_at" d_ClassRow_size_at (He.ma K (He.ga K "ClassRow") "size_at")
  F_ClassRow_line : FnM K "line" "ClassRow.line" d_ClassRow_line (He.ma K (He.ga K "ClassRow") "line")
  F_Reader_init : FnM K "__init__" "Reader.__init__" d_Reader_init (He.ma K (He.ga K "Reader") "__init__")
  F_Reader_pair_of : FnM K "pair_of" "Reader.pair_of" d_Reader_pair_of (He.ma K (He.ga K "Reader") "pair_of")
  F_Reader_take : FnM K "take" "Reader.take" d_Reader_take (He.ma K (He.ga K "Reader") "take")
  F_Reader_take_zooms : FnM K "take_zooms" "Reader.take_zooms" d_Reader_take_zooms (He.ma K (He.ga K "Reader") "take_zooms")
  F_Reader_take_class : FnM K "take_class" "Reader.take_class" d_Reader_take_class (He.ma K (He.ga K "Reader") "take_class")
  F_Reader_take_beside : FnM K "take_beside" "Reader.take_beside" d_Reader_take_beside (He.ma K (He.ga K "Reader") "take_beside")
  F_Reader_take_far : FnM K "take_far" "Reader.take_far" d_Reader_take_far (He.ma K (He.ga K "Reader") "take_far")
  F_Style_init : FnM K "__init__" "Style.__init__" d_Style_init (He.ma K (He.ga K "Style") "__init__")
  F_Style_eq : FnM K "__eq__" "Style.__eq__" d_Style_eq (He.ma K (He.ga K "Style") "__eq__")
  F_Style_iter : FnM K "__iter__" "Style.__iter__" d_Style_iter (He.ma K (He.ga K "Style") "__iter__")
  F_Style_call : FnM K "__call__" "Style.__call__" d_Style_call (He.ma K (He.ga K "Style") "__call__")
  F_Style_text : FnM K "text" "Style.text" d_Style_text (pga K (He.ma K (He.ga K "Style") "text"))
  F_Style_last : FnM K "last" "Style.last" d_Style_last (pga K (He.ma K (He.ga K "Style") "last"))
  F_Style_classes : FnM K "classes" "Style.classes" d_Style_classes (pga K (He.ma K (He.ga K "Style") "classes"))
  F_Style_check_zoom : FnM K "check_zoom" "Style.check_zoom" d_Style_check_zoom (He.ma K (He.ga K "Style") "check_zoom")
  F_Style_rank_of : FnM K "rank_of" "Style.rank_of" d_Style_rank_of (He.ma K (He.ga K "Style") "rank_of")
  F_Style_size : FnM K "size" "Style.size" d_Style_size (He.ma K (He.ga K "Style") "size")
  F_Style_letters : FnM K "letters" "Style.letters" d_Style_letters (He.ma K (He.ga K "Style") "letters")
  F_Style_competes : FnM K "competes" "Style.competes" d_Style_competes (He.ma K (He.ga K "Style") "competes")
  F_Style_far : FnM K "far" "Style.far" d_Style_far (He.ma K (He.ga K "Style") "far")
  F_Style_do_compete : FnM K "do_compete" "Style.do_compete" d_Style_do_compete (He.ma K (He.ga K "Style") "do_compete")
  F_Style_distance : FnM K "distance" "Style.distance" d_Style_distance (He.ma K (He.ga K "Style") "distance")
  ini : ∃ fd, IniT prg K (He.ga K "LabelError") (fIn K) fd ∧ fd.defaults = .none
  t_BEHIND : ∃ es n, KDict K w (He.ga K "BEHIND") es n
  t_BEHIND_0 : ∃ u v, PySem.W.nsIn K (He.ga K "BEHIND") "" = some (some u) ∧ RelV (.ref v) u ∧ ∀ H, SqT K H v ((["zooms"] : List Str).map V.str)
  t_BEHIND_1 : ∃ u v, PySem.W.nsIn K (He.ga K "BEHIND") "zooms" = some (some u) ∧ RelV (.ref v) u ∧ ∀ H, SqT K H v ((["class"] : List Str).map V.str)
  t_BEHIND_2 : ∃ u v, PySem.W.nsIn K (He.ga K "BEHIND") "class" = some (some u) ∧ RelV (.ref v) u ∧ ∀ H, SqT K H v ((["class", "beside", "far"] : List Str).map V.str)
  t_BEHIND_3 : ∃ u v, PySem.W.nsIn K (He.ga K "BEHIND") "beside" = some (some u) ∧ RelV (.ref v) u ∧ ∀ H, SqT K H v ((["beside", "far"] : List Str).map V.str)
  t_BEHIND_4 : ∃ u v, PySem.W.nsIn K (He.ga K "BEHIND") "far" = some (some u) ∧ RelV (.ref v) u ∧ ∀ H, SqT K H v ((["far"] : List Str).map V.str)
end SK
set_option maxHeartbeats 4000000
namespace SL
open PySem PySem.Spec PyProof.Rows L2
/-- a value whose built-in class is known -/
inductive Kn (H : Hp) : V → String → Prop
  | non : Kn H .non "NoneType"
  | bl (b : Bool) : Kn H (.bl b) "bool"
  | int (i : Int) : Kn H (.int i) "int"
  | str (z : Str) : Kn H (.str z) "str"
  | lst {a : Addr} {xs : List V} : H a = some (.lst xs) → Kn H (.ref a) "list"
  | tup {a : Addr} {xs : List V} : H a = some (.tup xs) → Kn H (.ref a) "tuple"
  | dK {a : Addr} {xs : List (Key × V)} : H a = some (.dK xs) → Kn H (.ref a) "dict"
  | dT {a : Addr} {xs : List (List Key × V)} : H a = some (.dT xs) → Kn H (.ref a) "dict"
theorem Kn.tyx {K : PySem.W.Frag} {H : Hp} {v : V} {n : String} : Kn H v n → TyX K H v (.type n)
  | .non => .base .non
  | .bl b => .base (.bl b)
  | .int i => .base (.int i)
  | .str z => .base (.str z)
  | .lst e => .base (.lst e)
  | .tup e => .base (.tup e)
  | .dK e => .base (.dK e)
  | .dT e => .base (.dT e)
theorem Kn.same {H H' : Hp} (s : Same H H') {v : V} {n : String} : Kn H v n → Kn H' v n
  | .non => .non
  | .bl b => .bl b
  | .int i => .int i
  | .str z => .str z
  | .lst e => .lst (s _ _ e)
  | .tup e => .tup (s _ _ e)
  | .dK e => .dK (s _ _ e)
  | .dT e => .dT (s _ _ e)
theorem Rv.kn {H : Hp} {v : V} {d : PyData} : Rv H v d → ∃ n, Kn H v n
  | .non => ⟨_, .non⟩
  | .bl b => ⟨_, .bl b⟩
  | .int i => ⟨_, .int i⟩
  | .str z => ⟨_, .str z⟩
  | .lst e _ => ⟨_, .lst e⟩
  | .tup e _ => ⟨_, .tup e⟩
  | .dK e _ _ => ⟨_, .dK e⟩
def isIntV : V → Bool
  | .int _ => true
  | _ => false
def isBlV : V → Bool
  | .bl _ => true
  | _ => false
def isStrV : V → Bool
  | .str _ => true
  | _ => false
theorem Kn.kInt {K : PySem.W.Frag} {H : Hp} {v : V} {n : String} (k : Kn H v n) : PySem.W.kitOne K (.type n) (.type "int") = some (isIntV v || isBlV v) := by
  cases k <;> first | exact kit_ty (show kitB _ _ = some true by decide +kernel) | exact kit_ty (show kitB _ _ = some false by decide +kernel)
theorem Kn.kBool {K : PySem.W.Frag} {H : Hp} {v : V} {n : String} (k : Kn H v n) : PySem.W.kitOne K (.type n) (.type "bool") = some (isBlV v) := by
  cases k <;> first | exact kit_ty (show kitB _ _ = some true by decide +kernel) | exact kit_ty (show kitB _ _ = some false by decide +kernel)
theorem Kn.kStr {K : PySem.W.Frag} {H : Hp} {v : V} {n : String} (k : Kn H v n) : PySem.W.kitOne K (.type n) (.type "str") = some (isStrV v) := by
  cases k <;> first | exact kit_ty (show kitB _ _ = some true by decide +kernel) | exact kit_ty (show kitB _ _ = some false by decide +kernel)
/-- between, of any value -/
def betw (v : V) (i j : Int) : Bool := match v with
  | .int n => decide (i ≤ n) && decide (n ≤ j)
  | _ => false
def optV : Option Int → V
  | none => .non
  | some i => .int i
theorem optV_kn {H : Hp} (o : Option Int) : ∃ n, Kn H (optV o) n := by
  cases o
  · exact ⟨_, .non⟩
  · exact ⟨_, .int _⟩
def letL : List Nat := ("abcdefghijklmnopqrstuvwxyz" : Str).cps.toList
def figL : List Nat := ("0123456789" : Str).cps.toList
def isName (z : Str) : Bool := (decide (1 ≤ z.length) && decide (z.length ≤ 12)) && z.cps.toList.all fun c => decide (c ∈ letL)
def allFig (z : Str) : Bool := z.cps.toList.all fun c => decide (c ∈ figL)
def wholeIn (z : Str) : Option Int := if z = "" ∨ allFig z = false then none else if z = "0" ∨ z.cps.toList.head? ≠ some 48 then intText? z else none
theorem fig_ok {c : Nat} (h : c ∈ figL) : 48 ≤ c ∧ c ≤ 57 := by
  have : ∀ c ∈ figL, 48 ≤ c ∧ c ≤ 57 := by decide +kernel
  exact this c h
theorem fig_of {c : Nat} (h1 : 48 ≤ c) (h2 : c ≤ 57) : c ∈ figL := by
  have : ∀ k, k < 10 → 48 + k ∈ figL := by decide +kernel
  have := this (c - 48) (by omega)
  rwa [show 48 + (c - 48) = c by omega] at this
theorem let_ok {c : Nat} (h : c ∈ letL) : 97 ≤ c ∧ c ≤ 122 := by
  have : ∀ c ∈ letL, 97 ≤ c ∧ c ≤ 122 := by decide +kernel
  exact this c h
theorem let_of {c : Nat} (h1 : 97 ≤ c) (h2 : c ≤ 122) : c ∈ letL := by
  have : ∀ k, k < 26 → 97 + k ∈ letL := by decide +kernel
  have := this (c - 97) (by omega)
  rwa [show 97 + (c - 97) = c by omega] at this
/-- a comprehension of tests over a text's signs -/
theorem lc_sgn {z : Str} {p : Nat → Bool} {g : TG} {tt : TT} {te : TE} {vs : List Nat} {σ : L2.St} {H1 : Hp} {D : Addr} {Qd : Hp → Prop} (hD : H1 D = none) (hn : z.length ≤ sizeLine)
    (hs : ∀ c H (Ky : V → Hp → Prop) (Kn : Hp → Prop), Same H1 H → Ky (.bl (p c)) H → g (.str ⟨#[c]⟩) (wipe σ vs) H fun σ2 H2 => wipe σ2 vs = wipe σ vs ∧ tt σ2 H2 fun b H3 => if b = true then te σ2 H3 Ky else Kn H3)
    (hd : ∀ H, Same H1 H → H D = some (.lst ((z.cps.toList.map p).map V.bl)) → Qd H) :
    ∃ W : Nat → Nat → Hp → Prop, (∃ m, W 0 m (upd H1 D (.lst []))) ∧ ∀ i m H, W i m H →
      ((Its z).stop i H ∧ Qd H) ∨ ((Its z).go i H ∧ ∃ Nx : Hp → Prop, (∀ H', Nx H' → ∃ m', m' < m ∧ W (i + 1) m' H') ∧ ∀ x H', (Its z).yld i H x H' → g x (wipe σ vs) H' fun σ2 H2 => wipe σ2 vs = wipe σ vs ∧ tt σ2 H2 fun b H3 =>
        if b = true then te σ2 H3 fun y H4 => ∃ acc, H4 D = some (.lst acc) ∧ acc.length < sizeLine ∧ Nx (upd H4 D (.lst (acc ++ [y]))) else Nx H3) := by
  refine lc_fm walk_str (fun i => some (V.bl ((z.cps.toList[i]?.map p).getD false))) hD hn (fun _ _ => trivial) ?_ (fun H s h => hd H s ?_)
  · rintro i x H H' Ky Kn hi s1 ⟨rfl, c, hc, rfl⟩ k _
    refine hs c H' Ky Kn s1 (k _ _ ?_ (Same.refl _))
    rw [Array.getElem?_toList, hc]
    rfl
  · rw [h, fm_some]
    have e := map_get z.cps.toList p false
    rw [← e, List.map_map]
    have e2 : z.cps.toList.length = z.cps.size := by simp
    rw [e2]
    rfl
theorem all_map {α : Type} (p : α → Bool) : ∀ l : List α, (l.map p).all id = l.all p
  | [] => rfl
  | a :: l => by
    rw [List.map_cons, List.all_cons, List.all_cons, all_map p l]
    rfl
end SL
namespace SK
open PySem PySem.Spec PyProof.Rows L2 SL
section
variable {w : World} {K : PySem.W.Frag} {mg : Str → Option Value} {base : Heap}
/-- is_integer(value) -/
def spIsInt : Sp := sp1 fun v H Q _ => (∃ n, Kn H v n) ∧ Q (.bl (isIntV v)) H
abbrev n_is_integer : List Str := ["value"]
theorem sc_is_integer : FnScope n_is_integer ["value"] (defScope d_is_integer) := ⟨rfl, rfl, rfl, by decide +kernel, rfl, by decide +kernel, by decide +kernel⟩
theorem ok_is_integer (T : Top w K mg) : Has prg w K mg base CX0 1 (He.ga K "is_integer") ["value"] spIsInt := by
  obtain ⟨fd, F⟩ := T.F_is_integer
  refine ⟨fd, F.ok (k := 0) sc_is_integer (fun _ _ _ _ h => sp1_len h) (fun cdv A outer s H vs Q E hr h => ?_), F.bindsN (fun _ _ _ _ _ _ us hl => match us, hl with | [_], _ => rfl), F.kp⟩
  obtain ⟨v0, rfl, h⟩ := h
  refine ⟨_, PSs.nox (pss_one (ps_ret (pe_and (pe_callB call_isi (by rfl) T.b_isinstance (by decide +kernel) (pa_cons (pv 0) (pa_cons (pe_bltn (v := .ty "int") (by rfl) T.b_int (by decide +kernel) rfl) pa_nil))) (pe_one (pe_not (pe_callB call_isi (by rfl) T.b_isinstance (by decide +kernel) (pa_cons (pv 0) (pa_cons (pe_bltn (v := .ty "bool") (by rfl) T.b_bool (by decide +kernel) rfl) pa_nil)))))))), ?_⟩
  obtain ⟨⟨n, kn⟩, q⟩ := h
  refine ⟨_, rfl, _, _, _, _, _, rfl, .ty _, kn.tyx, kn.kInt, _, rfl, ?_⟩
  refine ite2 (fun h0 => ?_) (fun h0 => ?_)
  · refine ⟨_, rfl, _, _, _, _, _, rfl, .ty _, kn.tyx, kn.kBool, _, rfl, ?_⟩
    cases kn <;> first | exact q | exact absurd h0 Bool.false_ne_true
  · cases kn <;> first | exact q | exact absurd rfl h0
/-- is_between(value, low, high) -/
def spBetw : Sp := sp3 fun v a b H Q _ => ∃ i j, a = .int i ∧ b = .int j ∧ (∃ n, Kn H v n) ∧ Q (.bl (betw v i j)) H
abbrev n_is_between : List Str := ["value", "low", "high"]
theorem sc_is_between : FnScope n_is_between ["value", "low", "high"] (defScope d_is_between) := ⟨rfl, rfl, rfl, by decide +kernel, rfl, by decide +kernel, by decide +kernel⟩
theorem ok_is_between (T : Top w K mg) : Has prg w K mg base CX0 2 (He.ga K "is_between") ["value", "low", "high"] spBetw := by
  obtain ⟨fd, F⟩ := T.F_is_between
  obtain ⟨fd_is_integer, G_is_integer, b_is_integer, k_is_integer⟩ := ok_is_integer (base := base) T
  refine ⟨fd, F.ok (k := 1) sc_is_between (fun _ _ _ _ h => sp3_len h) (fun cdv A outer s H vs Q E hr h => ?_), F.bindsN (fun _ _ _ _ _ _ us hl => match us, hl with | [_, _, _], _ => rfl), F.kp⟩
  obtain ⟨v0, v1, v2, rfl, h⟩ := h
  refine ⟨_, PSs.nox (pss_one (ps_ret (pe_and (pe_call G_is_integer (hr.mono (by decide)) (by rfl) T.g_is_integer k_is_integer b_is_integer .nil pass0 (pa_cons (pv 0) pa_nil)) (pe_one (pe_chain op_le op_le (pv 1) (pv 0) (pv 2)))))), ?_⟩
  obtain ⟨i, j, rfl, rfl, kn, q⟩ := h
  refine ⟨_, rfl, _, rfl, kn, _, rfl, ?_⟩
  cases v0 with
  | int n =>
    refine ⟨_, rfl, _, rfl, _, _, rfl, rfl, _, rfl, ?_⟩
    refine ite2 (fun h0 => ?_) (fun h0 => ?_)
    · refine ⟨_, rfl, _, _, rfl, rfl, ?_⟩
      have e : betw (.int n) i j = decide (n ≤ j) := by
        show (decide (i ≤ n) && decide (n ≤ j)) = _
        rw [h0, Bool.true_and]
      rw [e] at q
      exact q
    · have e : betw (.int n) i j = false := by
        show (decide (i ≤ n) && decide (n ≤ j)) = _
        rw [Bool.eq_false_iff.mpr h0, Bool.false_and]
      rw [e] at q
      exact q
  | _ => exact q
/-- is_name(value) -/
def spName : Sp := sp1 fun v H Q _ => ∃ z, v = .str z ∧ z.length ≤ sizeLine ∧ ∀ H', Same H H' → Q (.bl (isName z)) H'
abbrev n_is_name : List Str := ["value", "sign"]
theorem sc_is_name : FnScope n_is_name ["value"] (defScope d_is_name) := ⟨rfl, rfl, rfl, by decide +kernel, rfl, by decide +kernel, by decide +kernel⟩
theorem ok_is_name (T : Top w K mg) : Has prg w K mg base CX0 1 (He.ga K "is_name") ["value"] spName := by
  obtain ⟨fd, F⟩ := T.F_is_name
  refine ⟨fd, F.ok (k := 0) sc_is_name (fun _ _ _ _ h => sp1_len h) (fun cdv A outer s H vs Q E hr h => ?_), F.bindsN (fun _ _ _ _ _ _ us hl => match us, hl with | [_], _ => rfl), F.kp⟩
  obtain ⟨v0, rfl, h⟩ := h
  refine ⟨_, PSs.nox (pss_cons (ps_if (PW.pt (pw_or (pt_not (pt_val (pe_callB call_isi (by rfl) T.b_isinstance (by decide +kernel) (pa_cons (pv 0) (pa_cons (pe_bltn (v := .ty "str") (by rfl) T.b_str (by decide +kernel) rfl) pa_nil))))) (pw_or1 (pt_not (pt_chain op_le op_le pe_int (pe_callB call_len (by rfl) T.b_len (by decide +kernel) (pa_cons (pv 0) pa_nil)) (pe_cI (by rfl) T.c_MOST_LETTERS)))))) (pss_one (ps_ret pe_bl)) pss_nil)
    (pss_one (ps_ret (pe_callB (cr_all rfl) (by rfl) T.b_all (by decide +kernel) (pa_cons (pe_lc (own := [("sign", 1)]) (g := gName 1) (by rfl) sc_is_name.nd (pi_str (pv 0)) (blkOk_by (N := n_is_name) (sc := defScope d_is_name) (own := [("sign", 1)]) (by decide +kernel)) (fun _ _ _ _ _ => (pg_name (i := 1) sc_is_name.nd rfl (Or.inl rfl) (.inr rfl))) (fun _ _ _ _ _ => pts_nil) (fun _ _ _ _ _ => (pe_cmpR op_in_sign (pv 1) (pe_cS (by rfl) T.c_LETTERS) (by rfl)))) pa_nil))))), ?_⟩
  obtain ⟨z, rfl, hz, q⟩ := h
  refine ⟨_, rfl, _, _, _, _, _, rfl, .ty _, (Kn.str z (H := H)).tyx, (Kn.str z (H := H)).kStr, _, rfl, ?_⟩
  refine ⟨_, rfl, _, z.length, rfl, ⟨hz, rfl⟩, _, _, rfl, rfl, _, rfl, ?_⟩
  refine ite2 (fun h1 => ?_) (fun h1 => ?_)
  · refine ⟨_, _, rfl, rfl, _, rfl, ?_⟩
    have h1' : 1 ≤ z.length := by
      have := of_decide_eq_true h1
      omega
    by_cases h2 : z.length ≤ 12
    · rw [decide_eq_true (show ((z.length : Nat) : Int) ≤ 12 by omega)]
      refine ⟨_, rfl, z, rfl, fun D hD => ?_⟩
      refine lc_sgn (p := fun c => decide (c ∈ letL)) hD hz (fun c H1 Ky Kn s1 k => ⟨rfl, ⟨_, rfl, _, _, rfl, rfl, k⟩⟩) (fun H1 s1 hl => ?_)
      refine ⟨D, _, rfl, SqL.of hl, ?_⟩
      have e : isName z = (z.cps.toList.map fun c => decide (c ∈ letL)).all id := by
        unfold isName
        rw [decide_eq_true h1', decide_eq_true h2, all_map]
        rfl
      rw [e] at q
      exact q _ s1
    · rw [decide_eq_false (show ¬ ((z.length : Nat) : Int) ≤ 12 by omega)]
      have e : isName z = false := by
        unfold isName
        rw [decide_eq_false h2, Bool.and_false, Bool.false_and]
      rw [e] at q
      exact q _ (Same.refl _)
  · have h1' : ¬ 1 ≤ z.length := fun z' => h1 (decide_eq_true (show (1 : Int) ≤ (z.length : Nat) by omega))
    have e : isName z = false := by
      unfold isName
      rw [decide_eq_false h1', Bool.false_and, Bool.false_and]
    rw [e] at q
    exact ⟨_, rfl, q _ (Same.refl _)⟩
/-- whole_in(word) -/
def spWhole : Sp := sp1 fun v H Q _ => ∃ z, v = .str z ∧ z.length ≤ 640 ∧ ∀ H', Same H H' → Q (optV (wholeIn z)) H'
abbrev n_whole_in : List Str := ["word", "sign"]
theorem sc_whole_in : FnScope n_whole_in ["word"] (defScope d_whole_in) := ⟨rfl, rfl, rfl, by decide +kernel, rfl, by decide +kernel, by decide +kernel⟩
theorem ok_whole_in (T : Top w K mg) : Has prg w K mg base CX0 1 (He.ga K "whole_in") ["word"] spWhole := by
  obtain ⟨fd, F⟩ := T.F_whole_in
  refine ⟨fd, F.ok (k := 0) sc_whole_in (fun _ _ _ _ h => sp1_len h) (fun cdv A outer s H vs Q E hr h => ?_), F.bindsN (fun _ _ _ _ _ _ us hl => match us, hl with | [_], _ => rfl), F.kp⟩
  obtain ⟨v0, rfl, h⟩ := h
  refine ⟨_, PSs.nox (pss_cons (ps_if (PW.pt (pw_or (pt_cmpR op_eq (pv 0) pe_str (nomark _)) (pw_or1 (pt_not (pt_val (pe_callB (cr_all rfl) (by rfl) T.b_all (by decide +kernel) (pa_cons (pe_lc (own := [("sign", 1)]) (g := gName 1) (by rfl) sc_whole_in.nd (pi_str (pv 0)) (blkOk_by (N := n_whole_in) (sc := defScope d_whole_in) (own := [("sign", 1)]) (by decide +kernel)) (fun _ _ _ _ _ => (pg_name (i := 1) sc_whole_in.nd rfl (Or.inl rfl) (.inr rfl))) (fun _ _ _ _ _ => pts_nil) (fun _ _ _ _ _ => (pe_cmpR op_in_sign (pv 1) (pe_cS (by rfl) T.c_FIGURES) (by rfl)))) pa_nil))))))) (pss_one (ps_ret pe_non)) pss_nil)
    (pss_one (ps_ret (pe_ifExp (PW.pt (pw_or (pt_cmpR op_eq (pv 0) (pe_cS (by rfl) T.c_ZERO) (nomark _)) (pw_or1 (pt_cmpR op_ne (pe_ix ix_str (pv 0) pe_int (fun _ _ => rfl)) (pe_cS (by rfl) T.c_ZERO) (nomark _))))) (pe_callTy call_int_str (by rfl) T.b_int boot_int (pa_cons (pv 0) pa_nil)) pe_non)))), ?_⟩
  obtain ⟨z, rfl, hz, q⟩ := h
  have hz2 : z.length ≤ sizeLine := Nat.le_trans hz (by decide)
  refine ⟨_, rfl, rfl, _, rfl, ?_⟩
  by_cases h1 : z = ""
  · subst h1
    exact q _ (Same.refl _)
  · rw [decide_eq_false fun e => h1 (V.str.inj e)]
    refine ⟨_, rfl, z, rfl, fun D hD => ?_⟩
    refine lc_sgn (p := fun c => decide (c ∈ figL)) hD hz2 (fun c H1 Ky Kn s1 k => ⟨rfl, ⟨_, rfl, _, _, rfl, rfl, k⟩⟩) (fun H1 s1 hl => ?_)
    refine ⟨D, _, rfl, SqL.of hl, _, rfl, ?_⟩
    rw [all_map]
    have ef : (z.cps.toList.all fun c => decide (c ∈ figL)) = allFig z := rfl
    rw [ef]
    cases hf : allFig z with
    | false =>
      have e : wholeIn z = none := by
        unfold wholeIn
        rw [if_pos (.inr hf)]
      rw [e] at q
      exact q _ s1
    | true =>
      have hne : z.cps.toList ≠ [] := fun e => h1 (Str.ext' (Array.toList_inj.mp e))
      obtain ⟨c, r, hc⟩ : ∃ c r, z.cps.toList = c :: r := List.exists_cons_of_ne_nil hne
      have hdig : NumText.AllDigits z.cps.toList := fun c hc => fig_ok (of_decide_eq_true (List.all_eq_true.mp hf c hc))
      have hint := intText_digits hdig hne (Nat.le_trans hz (by decide))
      have hcond : ¬ (z = "" ∨ allFig z = false) := fun e => e.elim h1 (fun e => by rw [hf] at e; cases e)
      refine ⟨_, rfl, rfl, _, rfl, ?_⟩
      by_cases h2 : z = "0"
      · rw [decide_eq_true (congrArg V.str h2)]
        refine ⟨_, rfl, z, _, rfl, hint, hz, ?_⟩
        have e : wholeIn z = some ((NumText.digitsVal z.cps.toList : Nat) : Int) := by
          unfold wholeIn
          rw [if_neg hcond, if_pos (.inl h2), hint]
        rw [e] at q
        exact q _ s1
      · rw [decide_eq_false fun e => h2 (V.str.inj e)]
        have hat : atI z.cps.toList 0 = some c := atI_nat (j := 0) (by rw [hc]; rfl)
        refine ⟨_, rfl, z, _, c, rfl, rfl, hz2, hat, rfl, _, rfl, ?_⟩
        by_cases h3 : c = 48
        · have e3 : V.str ⟨#[c]⟩ = V.str "0" := by
            rw [h3]
            exact congrArg V.str (by decide +kernel)
          rw [decide_eq_true e3]
          have e : wholeIn z = none := by
            unfold wholeIn
            rw [if_neg hcond, if_neg (fun e => e.elim h2 (fun e => e (by rw [hc, h3]; rfl)))]
          rw [e] at q
          exact q _ s1
        · have e3 : V.str ⟨#[c]⟩ ≠ V.str "0" := fun e => h3 (by
            have e4 : (⟨#[c]⟩ : Str) = ⟨#[48]⟩ := (V.str.inj e).trans (by decide +kernel)
            have e5 := congrArg (fun z : Str => z.cps.toList) e4
            exact (List.cons.inj e5).1)
          rw [decide_eq_false e3]
          refine ⟨_, rfl, z, _, rfl, hint, hz, ?_⟩
          have e : wholeIn z = some ((NumText.digitsVal z.cps.toList : Nat) : Int) := by
            unfold wholeIn
            rw [if_neg hcond, if_pos (.inr (fun e => h3 (by rw [hc] at e; exact Option.some.inj e))), hint]
          rw [e] at q
          exact q _ s1
end
end SK

set_option maxHeartbeats 4000000
namespace SL
open PySem PySem.Spec PyProof.Rows L2
structure Row where
  name : Str
  first : Int
  least : Int
  most : Int
  sizes : List Int
deriving DecidableEq
def intsOf : List (Option Int) → Option (List Int)
  | [] => some []
  | none :: _ => none
  | some n :: r => (intsOf r).map (n :: ·)
theorem intsOf_some : ∀ {os : List (Option Int)} {ns : List Int}, intsOf os = some ns → os = ns.map some
  | [], ns, h => by cases h; rfl
  | none :: r, ns, h => by cases h
  | some n :: r, ns, h => by
    obtain ⟨m, h1, rfl⟩ := Option.map_eq_some_iff.mp (show (intsOf r).map (n :: ·) = some ns from h)
    rw [intsOf_some h1]
    rfl
theorem intsOf_map : ∀ ns : List Int, intsOf (ns.map some) = some ns
  | [] => rfl
  | n :: ns => by
    show (intsOf (ns.map some)).map (n :: ·) = _
    rw [intsOf_map ns]
    rfl
theorem intsOf_none : ∀ {os : List (Option Int)}, intsOf os = none → none ∈ os
  | [], h => by cases h
  | none :: r, h => List.mem_cons_self
  | some n :: r, h => by
    have h1 : (intsOf r).map (n :: ·) = none := h
    exact List.mem_cons_of_mem _ (intsOf_none (Option.map_eq_none_iff.mp h1))
def adj : List Int → Bool
  | a :: b :: r => decide (b ≤ 2 * a) && adj (b :: r)
  | _ => true
def sizesOk (ns : List Int) : Bool := !ns.isEmpty && (ns.all (fun n => decide (2 ≤ n) && decide (n ≤ 9)) && adj ns)
def areSizes (os : List (Option Int)) : Bool := match intsOf os with
  | some ns => sizesOk ns
  | none => false
def sizeAt (r : Row) (n : Int) : Int := if 0 ≤ n - r.first then (r.sizes[(n - r.first).toNat]?).getD 0 else 0
def rowOk (r : Row) (last : Int) : Bool := isName r.name && (decide (0 ≤ r.first) && (sizesOk r.sizes && (decide (r.first + r.sizes.length - 1 ≤ last) && (decide (1 ≤ r.least) && (decide (r.least ≤ 9) && (decide (r.least ≤ r.most) && decide (r.most ≤ r.least + 3)))))))
def rowOf (ws : List Str) : Option Row := match ws with
  | _ :: nm :: f :: l :: m :: s :: ss => match wholeIn f, wholeIn l, wholeIn m, intsOf ((s :: ss).map wholeIn) with
    | some f, some l, some m, some ns => some ⟨nm, f, l, m, ns⟩
    | _, _, _, _ => none
  | _ => none
def classRow (ws : List Str) (last : Int) : Option Row := match rowOf ws with
  | some r => if rowOk r last then some r else none
  | none => none
/-- a row's object -/
def RowAt (C : Addr) (H : Hp) (v : V) (r : Row) : Prop := ∃ c dx t1 t2, v = .ref c ∧ H c = some (.ins C dx [("own_name", .str r.name), ("own_first", .int r.first), ("own_letters", .ref t1), ("own_sizes", .ref t2)]) ∧
  H t1 = some (.tup [.int r.least, .int r.most]) ∧ H t2 = some (.tup (r.sizes.map V.int))
theorem RowAt.same {C : Addr} {H H' : Hp} (s : Same H H') {v : V} {r : Row} (h : RowAt C H v r) : RowAt C H' v r := by
  obtain ⟨c, dx, t1, t2, e, h1, h2, h3⟩ := h
  exact ⟨c, dx, t1, t2, e, s _ _ h1, s _ _ h2, s _ _ h3⟩
/-- elsewhere nothing is changed -/
def Off (c : Addr) (H H' : Hp) : Prop := ∀ b, b ≠ c → H' b = H b
def oD : Option Int → PyData
  | none => .none
  | some i => .int i
theorem dp_opts {K : PySem.W.Frag} {H : Hp} : ∀ os : List (Option Int), DpAll K H (os.map optV) (os.map oD)
  | [] => .nil
  | none :: r => .cons .non (dp_opts r)
  | some i :: r => .cons (.int i) (dp_opts r)
theorem adj_zip : ∀ ns : List Int, adj ns = (List.range (min ns.length (ns.drop 1).length)).all fun i => decide ((ns.drop 1)[i]?.getD 0 ≤ 2 * ns[i]?.getD 0)
  | [] => rfl
  | [a] => rfl
  | a :: b :: r => by
    have ih := adj_zip (b :: r)
    have e : min (a :: b :: r).length ((a :: b :: r).drop 1).length = min (b :: r).length ((b :: r).drop 1).length + 1 := by simp
    rw [e, List.range_succ_eq_map, List.all_cons, List.all_map]
    unfold adj
    rw [ih]
    congr 1
/-- data that == may be asked of -/
def Shp (m : Nat) (d : PyData) : Prop := d.canLay0 = true ∧ d.depth ≤ m
def ShpL (m : Nat) (ds : List PyData) : Prop := PyData.canLayAll0 ds = true ∧ PyData.depthAll ds ≤ m
theorem ShpL.of {m : Nat} : ∀ {ds : List PyData}, (∀ d ∈ ds, Shp m d) → ShpL m ds
  | [], _ => ⟨by simp only [PyData.canLayAll0], by simp only [PyData.depthAll]; omega⟩
  | d :: ds, h => by
    have h1 := h d List.mem_cons_self
    have h2 := ShpL.of (ds := ds) fun x hx => h x (List.mem_cons_of_mem _ hx)
    refine ⟨by simp only [PyData.canLayAll0, h1.1, h2.1, Bool.and_self], ?_⟩
    simp only [PyData.depthAll]
    exact Nat.max_le.mpr ⟨h1.2, h2.2⟩
theorem Shp.tup {m : Nat} {ds : List PyData} (h : ∀ d ∈ ds, Shp m d) : Shp (m + 1) (.tuple ds) :=
  ⟨by simp only [PyData.canLay0]; exact (ShpL.of h).1, by simp only [PyData.depth]; have := (ShpL.of h).2; omega⟩
theorem Shp.lst {m : Nat} {ds : List PyData} (h : ∀ d ∈ ds, Shp m d) : Shp (m + 1) (.list ds) :=
  ⟨by simp only [PyData.canLay0]; exact (ShpL.of h).1, by simp only [PyData.depth]; have := (ShpL.of h).2; omega⟩
theorem Shp.int {m : Nat} (i : Int) : Shp m (.int i) := ⟨by simp only [PyData.canLay0], by simp only [PyData.depth]; omega⟩
theorem Shp.non {m : Nat} : Shp m .none := ⟨by simp only [PyData.canLay0], by simp only [PyData.depth]; omega⟩
theorem Shp.str {m : Nat} {z : Str} (h : PyData.strOk z = true) : Shp m (.str z) := ⟨by simp only [PyData.canLay0]; exact h, by simp only [PyData.depth]; omega⟩
theorem Shp.mono {m n : Nat} {d : PyData} (h : Shp m d) (e : m ≤ n) : Shp n d := ⟨h.1, Nat.le_trans h.2 e⟩
theorem Shp.shaped {m : Nat} {d : PyData} (h : Shp m d) (e : m ≤ 64) : SeqAt.shaped d = true := by
  show (d.canLay0 && decide (d.depth ≤ 64)) = true
  rw [h.1, decide_eq_true (Nat.le_trans h.2 e)]
  rfl
theorem cutV_drop (xs : List V) (k : Nat) : cutV xs (some (k : Int)) none = xs.drop k := by
  unfold cutV
  rw [HT.sIx_nat, HT.sIx_none]
  by_cases h : k ≤ xs.length
  · rw [Nat.min_eq_left h, List.take_of_length_le (by rw [List.length_drop]; exact Nat.le_refl _)]
  · rw [Nat.min_eq_right (by omega), List.drop_of_length_le (Nat.le_refl _), List.drop_of_length_le (by omega)]
    simp
theorem cutV_mid (xs : List V) (k j : Nat) : cutV xs (some (k : Int)) (some (j : Int)) = (xs.drop k).take (j - k) := by
  unfold cutV
  rw [HT.sIx_nat, HT.sIx_nat]
  by_cases h : k ≤ xs.length
  · rw [Nat.min_eq_left h]
    by_cases h2 : j ≤ xs.length
    · rw [Nat.min_eq_left h2]
    · rw [Nat.min_eq_right (by omega), List.take_of_length_le (by rw [List.length_drop]; exact Nat.le_refl _), List.take_of_length_le (by rw [List.length_drop]; omega)]
  · rw [Nat.min_eq_right (show xs.length ≤ k by omega), List.drop_of_length_le (Nat.le_refl _), List.drop_of_length_le (show xs.length ≤ k by omega)]
    simp
theorem shaped_opts (os : List (Option Int)) : SeqAt.shaped (.tuple (os.map oD)) = true := by
  refine (Shp.tup (m := 0) fun d hd => ?_).shaped (by decide)
  obtain ⟨o, _, rfl⟩ := List.mem_map.mp hd
  cases o
  · exact Shp.non
  · exact Shp.int _
theorem eqv_nil (os : List (Option Int)) : PyData.eqv (.tuple (os.map oD)) (.tuple []) = os.isEmpty := by
  cases os <;> simp [PyData.eqv, PyData.eqvAll]
end SL
namespace SK
open PySem PySem.Spec PyProof.Rows L2 SL
section
variable {w : World} {K : PySem.W.Frag} {mg : Str → Option Value} {base : Heap}
abbrev cRow (K : PySem.W.Frag) : Addr := He.ga K "ClassRow"
def spRowInit (K : PySem.W.Frag) : Sp := sp5 fun self n f l s H Q _ => ∃ c dx, self = .ref c ∧ H c = some (.ins (cRow K) dx []) ∧
  ∀ H', Off c H H' → H' c = some (.ins (cRow K) dx [("own_name", n), ("own_first", f), ("own_letters", l), ("own_sizes", s)]) → Q .non H'
abbrev n_ClassRow_init : List Str := ["self", "name", "first", "letters", "sizes"]
theorem sc_ClassRow_init : FnScope n_ClassRow_init ["self", "name", "first", "letters", "sizes"] (defScope d_ClassRow_init) := ⟨rfl, rfl, rfl, by decide +kernel, rfl, by decide +kernel, by decide +kernel⟩
theorem ok_ClassRow_init (T : Top w K mg) : Has prg w K mg base CX0 1 (He.ma K (He.ga K "ClassRow") "__init__") ["self", "name", "first", "letters", "sizes"] (spRowInit K) := by
  obtain ⟨fd, F⟩ := T.F_ClassRow_init
  refine ⟨fd, F.ok (k := 0) sc_ClassRow_init (fun _ _ _ _ h => sp5_len h) (fun cdv A outer s H vs Q E hr h => ?_), F.bindsN (fun _ _ _ _ _ _ us hl => match us, hl with | [_, _, _, _, _], _ => rfl), F.kp⟩
  obtain ⟨v0, v1, v2, v3, v4, rfl, h⟩ := h
  refine ⟨_, PSs.nox (pss_cons (ps_fld (pv 0) (pv 1) rfl)
    (pss_cons (ps_fld (pv 0) (pv 2) rfl)
    (pss_cons (ps_fld (pv 0) (pv 3) rfl)
    (pss_one (ps_fld (pv 0) (pv 4) rfl))))), ?_⟩
  obtain ⟨c, dx, rfl, hc, q⟩ := h
  refine ⟨_, rfl, _, rfl, c, _, dx, _, rfl, hc, T.cl_ClassRow, T.na_ClassRow_own_name, by decide, ?_⟩
  refine ⟨_, rfl, _, rfl, c, _, dx, _, rfl, upd_same, T.cl_ClassRow, T.na_ClassRow_own_first, by show 1 < 1000; decide, ?_⟩
  refine ⟨_, rfl, _, rfl, c, _, dx, _, rfl, upd_same, T.cl_ClassRow, T.na_ClassRow_own_letters, by show 2 < 1000; decide, ?_⟩
  refine ⟨_, rfl, _, rfl, c, _, dx, _, rfl, upd_same, T.cl_ClassRow, T.na_ClassRow_own_sizes, by show 3 < 1000; decide, ?_⟩
  refine q _ (fun b hb => ?_) upd_same
  rw [upd_ne hb, upd_ne hb, upd_ne hb, upd_ne hb]
def spSizeAt (K : PySem.W.Frag) : Sp := sp2 fun self z H Q _ => ∃ r n, RowAt (cRow K) H self r ∧ z = .int n ∧ Q (.int (sizeAt r n)) H
abbrev n_ClassRow_size_at : List Str := ["self", "zoom", "at"]
theorem sc_ClassRow_size_at : FnScope n_ClassRow_size_at ["self", "zoom"] (defScope d_ClassRow_size_at) := ⟨rfl, rfl, rfl, by decide +kernel, rfl, by decide +kernel, by decide +kernel⟩
theorem ok_ClassRow_size_at (T : Top w K mg) : Has prg w K mg base CX0 1 (He.ma K (He.ga K "ClassRow") "size_at") ["self", "zoom"] (spSizeAt K) := by
  obtain ⟨fd, F⟩ := T.F_ClassRow_size_at
  refine ⟨fd, F.ok (k := 0) sc_ClassRow_size_at (fun _ _ _ _ h => sp2_len h) (fun cdv A outer s H vs Q E hr h => ?_), F.bindsN (fun _ _ _ _ _ _ us hl => match us, hl with | [_, _], _ => rfl), F.kp⟩
  obtain ⟨v0, v1, rfl, h⟩ := h
  refine ⟨_, PSs.nox (pss_cons (ps_set (i := 2) sc_ClassRow_size_at.nd rfl (Or.inl rfl) (pe_op op_sub (pv 1) (pe_fld (pv 0) rfl)))
    (pss_one (ps_ret (pe_ifExp (pt_chain op_le op_lt pe_int (pv 2) (pe_callB call_len (by rfl) T.b_len (by decide +kernel) (pa_cons (pe_fld (pv 0) rfl) pa_nil))) (pe_ix ix_tup (pe_fld (pv 0) rfl) (pv 2) (fun _ _ => rfl)) pe_int)))), ?_⟩
  obtain ⟨r, n, ⟨c, dx, t1, t2, rfl, hc, h1, h2⟩, rfl, q⟩ := h
  refine ⟨_, rfl, _, rfl, c, _, dx, _, _, rfl, hc, T.cl_ClassRow, T.na_ClassRow_own_first, rfl, _, _, rfl, rfl, ?_⟩
  refine ⟨_, rfl, _, _, rfl, rfl, _, rfl, ?_⟩
  refine ite2 (fun g1 => ?_) (fun g1 => ?_)
  · refine ⟨_, rfl, c, _, dx, _, _, rfl, hc, T.cl_ClassRow, T.na_ClassRow_own_sizes, rfl, _, r.sizes.length, rfl, .inr ⟨_, SqT.of h2, by rw [List.length_map]⟩, _, _, rfl, rfl, _, rfl, ?_⟩
    have g1' : 0 ≤ n - r.first := of_decide_eq_true g1
    refine ite2 (fun g2 => ?_) (fun g2 => ?_)
    · have g2' : n - r.first < (r.sizes.length : Nat) := of_decide_eq_true g2
      have hl : (n - r.first).toNat < r.sizes.length := by omega
      have e : sizeAt r n = r.sizes[(n - r.first).toNat] := by
        unfold sizeAt
        rw [if_pos g1', List.getElem?_eq_getElem hl]
        rfl
      refine ⟨_, rfl, c, _, dx, _, _, rfl, hc, T.cl_ClassRow, T.na_ClassRow_own_sizes, rfl, _, rfl, t2, _, _, _, rfl, rfl, SqT.of h2, at_of (j := (n - r.first).toNat) (by omega) (by rw [List.getElem?_map, List.getElem?_eq_getElem hl]; rfl), ?_⟩
      rw [e] at q
      exact q
    · have g2' : ¬ n - r.first < (r.sizes.length : Nat) := fun z => g2 (decide_eq_true z)
      have e : sizeAt r n = 0 := by
        unfold sizeAt
        rw [if_pos g1', List.getElem?_eq_none (by omega)]
        rfl
      rw [e] at q
      exact q
  · have e : sizeAt r n = 0 := by
      unfold sizeAt
      rw [if_neg fun z => g1 (decide_eq_true z)]
    rw [e] at q
    exact ⟨_, rfl, q⟩
def spAreSizes : Sp := sp1 fun v H Q _ => ∃ t os, v = .ref t ∧ H t = some (.tup (os.map optV)) ∧ os.length ≤ 1000 ∧ ∀ H', Same H H' → Q (.bl (areSizes os)) H'
abbrev n_are_sizes : List Str := ["sizes", "size", "later"]
theorem sc_are_sizes : FnScope n_are_sizes ["sizes"] (defScope d_are_sizes) := ⟨rfl, rfl, rfl, by decide +kernel, rfl, by decide +kernel, by decide +kernel⟩
theorem ok_are_sizes (T : Top w K mg) : Has prg w K mg base CX0 3 (He.ga K "are_sizes") ["sizes"] spAreSizes := by
  obtain ⟨fd, F⟩ := T.F_are_sizes
  obtain ⟨fd_is_between, G_is_between, b_is_between, k_is_between⟩ := ok_is_between (base := base) T
  refine ⟨fd, F.ok (k := 2) sc_are_sizes (fun _ _ _ _ h => sp1_len h) (fun cdv A outer s H vs Q E hr h => ?_), F.bindsN (fun _ _ _ _ _ _ us hl => match us, hl with | [_], _ => rfl), F.kp⟩
  obtain ⟨v0, rfl, h⟩ := h
  refine ⟨_, PSs.nox (pss_cons (ps_if (PW.pt (pw_or (pt_cmpR (op_eqD hr.units) (pv 0) (pe_tup pa_nil) (nomark _)) (pw_or1 (pt_not (pt_val (pe_callB (cr_all rfl) (by rfl) T.b_all (by decide +kernel) (pa_cons (pe_lc (own := [("size", 1)]) (g := gName 1) (by rfl) sc_are_sizes.nd (pi_tup (pv 0)) (blkOk_by (N := n_are_sizes) (sc := defScope d_are_sizes) (own := [("size", 1)]) (by decide +kernel)) (fun _ _ _ _ _ => (pg_name (i := 1) sc_are_sizes.nd rfl (Or.inl rfl) (.inr rfl))) (fun _ _ _ _ _ => pts_nil) (fun _ _ _ _ _ => (pe_call G_is_between (hr.mono (by decide)) (by rfl) T.g_is_between k_is_between b_is_between .nil pass0 (pa_cons (pv 1) (pa_cons (pe_cI (by rfl) T.c_LEAST_SIZE) (pa_cons (pe_cI (by rfl) T.c_MOST_SIZE) pa_nil)))))) pa_nil))))))) (pss_one (ps_ret pe_bl)) pss_nil)
    (pss_one (ps_ret (pe_callB (cr_all rfl) (by rfl) T.b_all (by decide +kernel) (pa_cons (pe_lc (own := [("size", 1), ("later", 2)]) (g := gTup K 2 (gCons (gName 1) (gCons (gName 2) gNil))) (by rfl) sc_are_sizes.nd (RZ.pi_zipA (by rfl) T.b_zip (pa_cons (pv 0) (pa_cons (pe_slice sl_tup (pv 0) (po_some pe_int) po_none) pa_nil))) (blkOk_by (N := n_are_sizes) (sc := defScope d_are_sizes) (own := [("size", 1), ("later", 2)]) (by decide +kernel)) (fun _ _ _ _ _ => (pg_tup rfl (pgs_cons (pg_name (i := 1) sc_are_sizes.nd rfl (Or.inl rfl) (.inr rfl)) (pgs_cons (pg_name (i := 2) sc_are_sizes.nd rfl (Or.inl rfl) (.inr rfl)) pgs_nil)))) (fun _ _ _ _ _ => pts_nil) (fun _ _ _ _ _ => (pe_cmpR op_le (pv 2) (pe_op op_mul pe_int (pv 1)) (nomark _)))) pa_nil))))), ?_⟩
  obtain ⟨t, os, rfl, ht, hl, q⟩ := h
  refine ⟨_, rfl, (by show 0 ≤ sizeLine; decide), fun p hp => ?_⟩
  have s1 : Same H (upd H p (.tup [])) := same_new hp
  refine ⟨_, _, .tup (SqT.of (s1 _ _ ht)) (dp_opts os), .tup (SqT.of upd_same) .nil, shaped_opts os, by decide +kernel, _, rfl, ?_⟩
  rw [eqv_nil]
  cases os with
  | nil => exact q _ s1
  | cons o os' =>
    refine ⟨_, rfl, t, rfl, ⟨_, SqT.of (s1 _ _ ht)⟩, fun D hD => ?_⟩
    refine lc_fm (walk_tup (xs := (o :: os').map optV)) (fun i => some (V.bl (((o :: os')[i]?.map fun o => betw (optV o) 2 9).getD false))) hD (by rw [List.length_map]; exact Nat.le_trans hl (by decide)) (fun H2 s2 => SqT.of (s2 _ _ (s1 _ _ ht))) ?_ ?_
    · rintro i x H2 H3 Ky Kn hi s2 ⟨rfl, hx⟩ ky _
      rw [List.getElem?_map] at hx
      obtain ⟨o2, ho2, rfl⟩ := Option.map_eq_some_iff.mp hx
      refine ⟨rfl, _, rfl, _, _, _, rfl, 2, 9, rfl, rfl, optV_kn _, ky _ _ ?_ (Same.refl _)⟩
      rw [ho2]
      rfl
    · intro H2 s2 hD2
      rw [fm_some, List.length_map, show (fun i => V.bl (((o :: os')[i]?.map fun o => betw (optV o) 2 9).getD false)) = V.bl ∘ (fun i => ((o :: os')[i]?.map fun o => betw (optV o) 2 9).getD false) from rfl, ← List.map_map, map_get] at hD2
      refine ⟨D, _, rfl, SqL.of hD2, _, rfl, ?_⟩
      rw [all_map]
      cases hall : (o :: os').all fun o => betw (optV o) 2 9 with
      | false =>
        have e : areSizes (o :: os') = false := by
          unfold areSizes
          split
          · rename_i ns hns
            have := intsOf_some hns
            rw [this, List.all_map] at hall
            unfold sizesOk
            rw [show (ns.all fun n => decide (2 ≤ n) && decide (n ≤ 9)) = false from hall, Bool.false_and, Bool.and_false]
          · rfl
        rw [e] at q
        exact q _ (s1.trans s2)
      | true =>
        obtain ⟨ns, hns⟩ : ∃ ns, intsOf (o :: os') = some ns := by
          cases h : intsOf (o :: os') with
          | some ns => exact ⟨ns, rfl⟩
          | none =>
            have := List.all_eq_true.mp hall _ (intsOf_none h)
            cases this
        have e1 := intsOf_some hns
        have e2 : areSizes (o :: os') = adj ns := by
          unfold areSizes
          rw [hns]
          show sizesOk ns = _
          unfold sizesOk
          rw [e1, List.all_map] at hall
          rw [show (ns.all fun n => decide (2 ≤ n) && decide (n ≤ 9)) = true from hall, Bool.true_and]
          cases ns with
          | nil => cases e1
          | cons a b => rfl
        rw [e2] at q
        have hns' : ((o :: os').map optV) = ns.map V.int := by
          rw [e1, List.map_map]
          rfl
        have hlen : ns.length ≤ 1000 := by
          have := congrArg List.length e1
          rw [List.length_map] at this
          omega
        have hne : ns ≠ [] := fun z => by rw [z] at e1; cases e1
        have ht2 : H2 t = some (.tup (ns.map V.int)) := by
          rw [← hns']
          exact s2 _ _ (s1 _ _ ht)
        have hpos : 0 < ns.length := List.length_pos_iff.mpr hne
        refine ⟨_, rfl, _, rfl, 1, rfl, t, _, rfl, SqT.of ht2, ?_, fun p2 hp2 => ?_⟩
        · rw [show (some 1 : Option Int) = some ((1 : Nat) : Int) from rfl, HT.sIx_nat, List.length_map]
          omega
        · rw [show (some 1 : Option Int) = some ((1 : Nat) : Int) from rfl, cutV_drop, ← List.map_drop]
          have s3 : Same H2 (upd H2 p2 (.tup ((ns.drop 1).map V.int))) := same_new hp2
          refine ⟨t, p2, _, _, rfl, .inr ⟨SqT.of (s3 _ _ ht2), SqT.of upd_same, fun D2 hD2 => ?_⟩⟩
          refine lc_fm (walk_zipT (n := min ns.length (ns.drop 1).length) (by rw [List.length_map, List.length_map])) (fun i => some (V.bl (decide ((ns.drop 1)[i]?.getD 0 ≤ 2 * ns[i]?.getD 0)))) hD2 (by have : min ns.length (ns.drop 1).length ≤ ns.length := Nat.min_le_left _ _; exact Nat.le_trans this (Nat.le_trans hlen (by decide)))
            (fun H4 s4 => ⟨SqT.of (s4 _ _ (s3 _ _ ht2)), SqT.of (s4 _ _ upd_same)⟩) ?_ ?_
          · rintro i x H4 H5 Ky Kn hi s4 ⟨Tt, x1, y1, rfl, hT, rfl, e3, e4⟩ ky _
            have e3 : (ns.map V.int)[i]? = some x1 := e3
            have e4 : ((ns.drop 1).map V.int)[i]? = some y1 := e4
            rw [List.getElem?_map] at e3 e4
            obtain ⟨a, ha, rfl⟩ := Option.map_eq_some_iff.mp e3
            obtain ⟨b, hb, rfl⟩ := Option.map_eq_some_iff.mp e4
            refine ⟨Tt, _, rfl, SqT.of upd_same, rfl, _, _, rfl, _, _, rfl, rfl, rfl, ?_⟩
            refine ⟨_, rfl, _, rfl, _, _, rfl, rfl, .inl ⟨by decide, by decide⟩, _, _, rfl, rfl, ky _ _ ?_ (same_new hT)⟩
            rw [ha, hb]
            rfl
          · intro H4 s4 hD4
            have hD5 : H4 D2 = some (.lst (((List.range (min ns.length (ns.drop 1).length)).map fun i => decide ((ns.drop 1)[i]?.getD 0 ≤ 2 * ns[i]?.getD 0)).map V.bl)) := by
              rw [hD4, fm_some, List.map_map]
              rfl
            refine ⟨D2, _, rfl, SqL.of hD5, ?_⟩
            have e5 : ((List.range (min ns.length (ns.drop 1).length)).map fun i => decide ((ns.drop 1)[i]?.getD 0 ≤ 2 * ns[i]?.getD 0)).all id = adj ns := by rw [all_map, adj_zip]
            rw [← e5] at q
            exact q _ (s1.trans (s2.trans (s3.trans s4)))
end
end SK

set_option maxHeartbeats 4000000
namespace SL
open PySem PySem.Spec PyProof.Rows L2
/-- a comprehension of whole_in over a list of words -/
theorem lc_words {K : PySem.W.Frag} {W : Addr} {ws : List Str} {f : Str → V} {g : TG} {tt : TT} {te : TE} {vs : List Nat} {σ : L2.St} {H1 : Hp} {D : Addr} {Qd : Hp → Prop} (hD : H1 D = none) (hW : H1 W = some (.lst (ws.map V.str))) (hn : ws.length ≤ sizeLine)
    (hs : ∀ z H (Ky : V → Hp → Prop) (Kn : Hp → Prop), z ∈ ws → Same H1 H → (∀ H', Same H H' → Ky (f z) H') → g (.str z) (wipe σ vs) H fun σ2 H2 => wipe σ2 vs = wipe σ vs ∧ tt σ2 H2 fun b H3 => if b = true then te σ2 H3 Ky else Kn H3)
    (hd : ∀ H, Same H1 H → H D = some (.lst (ws.map f)) → Qd H) :
    ∃ W' : Nat → Nat → Hp → Prop, (∃ m, W' 0 m (upd H1 D (.lst []))) ∧ ∀ i m H, W' i m H →
      ((Itl K W).stop i H ∧ Qd H) ∨ ((Itl K W).go i H ∧ ∃ Nx : Hp → Prop, (∀ H', Nx H' → ∃ m', m' < m ∧ W' (i + 1) m' H') ∧ ∀ x H', (Itl K W).yld i H x H' → g x (wipe σ vs) H' fun σ2 H2 => wipe σ2 vs = wipe σ vs ∧ tt σ2 H2 fun b H3 =>
        if b = true then te σ2 H3 fun y H4 => ∃ acc, H4 D = some (.lst acc) ∧ acc.length < sizeLine ∧ Nx (upd H4 D (.lst (acc ++ [y]))) else Nx H3) := by
  refine lc_fm (walk_list (xs := ws.map V.str)) (fun i => some ((ws[i]?.map f).getD .non)) hD (by rw [List.length_map]; exact hn) (fun H s => SqL.of (s _ _ hW)) ?_ (fun H s h => hd H s ?_)
  · rintro i x H H' Ky Kn hi s1 ⟨rfl, hx⟩ k _
    rw [List.getElem?_map] at hx
    obtain ⟨z, hz, rfl⟩ := Option.map_eq_some_iff.mp hx
    refine hs z H' Ky Kn (List.mem_of_getElem? hz) s1 fun H2 s2 => k _ _ ?_ s2
    rw [hz]
    rfl
  · rw [h, fm_some, List.length_map, map_get]
theorem classRow_none {ws : List Str} {last : Int} (h : ∀ r, rowOf ws = some r → rowOk r last = true → False) : classRow ws last = none := by
  unfold classRow
  split
  · rename_i r hr
    cases e : rowOk r last with
    | true => exact (h r hr e).elim
    | false => rfl
  · rfl
theorem classRow_some {ws : List Str} {last : Int} {r : Row} (h : classRow ws last = some r) : rowOf ws = some r ∧ rowOk r last = true := by
  unfold classRow at h
  split at h
  · rename_i r' hr
    split at h
    · rename_i e
      rw [hr, h]
      exact ⟨rfl, by rw [← Option.some.inj h]; exact e⟩
    · cases h
  · cases h
theorem rowOf_inv {w0 nm f l m s0 : Str} {ss : List Str} {r : Row} (h : rowOf (w0 :: nm :: f :: l :: m :: s0 :: ss) = some r) :
    r.name = nm ∧ wholeIn f = some r.first ∧ wholeIn l = some r.least ∧ wholeIn m = some r.most ∧ intsOf ((s0 :: ss).map wholeIn) = some r.sizes := by
  unfold rowOf at h
  dsimp only at h
  split at h
  · rename_i f' l' m' ns h1 h2 h3 h4
    have e := (Option.some.inj h).symm
    subst e
    exact ⟨rfl, h1, h2, h3, h4⟩
  · cases h
theorem rowOk_iff {r : Row} {last : Int} : rowOk r last = true ↔ isName r.name = true ∧ 0 ≤ r.first ∧ sizesOk r.sizes = true ∧ r.first + r.sizes.length - 1 ≤ last ∧ 1 ≤ r.least ∧ r.least ≤ 9 ∧ r.least ≤ r.most ∧ r.most ≤ r.least + 3 := by
  unfold rowOk
  simp only [Bool.and_eq_true, decide_eq_true_eq]
theorem betw_int {n i j : Int} : betw (.int n) i j = true ↔ i ≤ n ∧ n ≤ j := by
  show (decide (i ≤ n) && decide (n ≤ j)) = true ↔ _
  rw [Bool.and_eq_true, decide_eq_true_eq, decide_eq_true_eq]
theorem areSizes_some {os : List (Option Int)} (h : areSizes os = true) : ∃ ns, intsOf os = some ns ∧ sizesOk ns = true := by
  unfold areSizes at h
  split at h
  · rename_i ns e
    exact ⟨ns, e, h⟩
  · cases h
theorem sizesOk_pos {ns : List Int} (h : sizesOk ns = true) : 0 < ns.length := by
  cases ns with
  | nil => cases h
  | cons a b => simp
end SL
namespace SK
open PySem PySem.Spec PyProof.Rows L2 SL
section
variable {w : World} {K : PySem.W.Frag} {mg : Str → Option Value} {base : Heap}
def spClassRow (K : PySem.W.Frag) : Sp := sp2 fun wv lv H Q _ => ∃ W ws last, wv = .ref W ∧ lv = .int last ∧ H W = some (.lst (ws.map V.str)) ∧ ws.length ≤ 1000 ∧ (∀ z ∈ ws, z.length ≤ 640) ∧
  (classRow ws last = none → ∀ H', Same H H' → Q .non H') ∧ (∀ r, classRow ws last = some r → ∀ H' v, Same H H' → RowAt (cRow K) H' v r → Q v H')
abbrev n_class_row : List Str := ["words", "last", "sizes", "first", "least", "most", "word"]
theorem sc_class_row : FnScope n_class_row ["words", "last"] (defScope d_class_row) := ⟨rfl, rfl, rfl, by decide +kernel, rfl, by decide +kernel, by decide +kernel⟩
theorem ok_class_row (T : Top w K mg) : Has prg w K mg base CX0 4 (He.ga K "class_row") ["words", "last"] (spClassRow K) := by
  obtain ⟨fd, F⟩ := T.F_class_row
  obtain ⟨fd_is_name, G_is_name, b_is_name, k_is_name⟩ := ok_is_name (base := base) T
  obtain ⟨fd_whole_in, G_whole_in, b_whole_in, k_whole_in⟩ := ok_whole_in (base := base) T
  obtain ⟨fd_are_sizes, G_are_sizes, b_are_sizes, k_are_sizes⟩ := ok_are_sizes (base := base) T
  obtain ⟨fd_is_between, G_is_between, b_is_between, k_is_between⟩ := ok_is_between (base := base) T
  obtain ⟨fd_ClassRow_init, G_ClassRow_init, b_ClassRow_init, k_ClassRow_init⟩ := ok_ClassRow_init (base := base) T
  refine ⟨fd, F.ok (k := 3) sc_class_row (fun _ _ _ _ h => sp2_len h) (fun cdv A outer s H vs Q E hr h => ?_), F.bindsN (fun _ _ _ _ _ _ us hl => match us, hl with | [_, _], _ => rfl), F.kp⟩
  obtain ⟨v0, v1, rfl, h⟩ := h
  refine ⟨_, PSs.nox (pss_cons (ps_if (PW.pt (pw_or (pt_cmpR op_lt (pe_callB call_len (by rfl) T.b_len (by decide +kernel) (pa_cons (pv 0) pa_nil)) (pe_cI (by rfl) T.c_CLASS_WORDS) (nomark _)) (pw_or1 (pt_not (pt_val (pe_call G_is_name (hr.mono (by decide)) (by rfl) T.g_is_name k_is_name b_is_name .nil pass0 (pa_cons (pe_ix ix_list (pv 0) pe_int (fun _ _ => rfl)) pa_nil))))))) (pss_one (ps_ret pe_non)) pss_nil)
    (pss_cons (ps_asg (pe_lc (own := [("word", 6)]) (g := gName 6) (by rfl) sc_class_row.nd (pi_list (pe_slice sl_list (pv 0) (po_some pe_int) (po_some (pe_cI (by rfl) T.c_SIZES_AT)))) (blkOk_by (N := n_class_row) (sc := defScope d_class_row) (own := [("word", 6)]) (by decide +kernel)) (fun _ _ _ _ _ => (pg_name (i := 6) sc_class_row.nd rfl (Or.inl rfl) (.inr rfl))) (fun _ _ _ _ _ => pts_nil) (fun _ _ _ _ _ => (pe_call G_whole_in (hr.mono (by decide)) (by rfl) T.g_whole_in k_whole_in b_whole_in .nil pass0 (pa_cons (pv 6) pa_nil)))) (pg_unl rfl (pgs_cons (pg_name (i := 3) sc_class_row.nd rfl (Or.inl rfl)) (pgs_cons (pg_name (i := 4) sc_class_row.nd rfl (Or.inl rfl)) (pgs_cons (pg_name (i := 5) sc_class_row.nd rfl (Or.inl rfl)) pgs_nil)))))
    (pss_cons (ps_set (i := 2) sc_class_row.nd rfl (Or.inl rfl) (pe_callTy call_tuple_of (by rfl) T.b_tuple boot_tuple (pa_cons (pe_lc (own := [("word", 6)]) (g := gName 6) (by rfl) sc_class_row.nd (pi_list (pe_slice sl_list (pv 0) (po_some (pe_cI (by rfl) T.c_SIZES_AT)) po_none)) (blkOk_by (N := n_class_row) (sc := defScope d_class_row) (own := [("word", 6)]) (by decide +kernel)) (fun _ _ _ _ _ => (pg_name (i := 6) sc_class_row.nd rfl (Or.inl rfl) (.inr rfl))) (fun _ _ _ _ _ => pts_nil) (fun _ _ _ _ _ => (pe_call G_whole_in (hr.mono (by decide)) (by rfl) T.g_whole_in k_whole_in b_whole_in .nil pass0 (pa_cons (pv 6) pa_nil)))) pa_nil)))
    (pss_cons (ps_if (PW.pt (pw_or (pt_not (pt_val (pe_call G_is_between (hr.mono (by decide)) (by rfl) T.g_is_between k_is_between b_is_between .nil pass0 (pa_cons (pv 3) (pa_cons pe_int (pa_cons (pv 1) pa_nil)))))) (pw_or (pt_not (pt_val (pe_call G_are_sizes (hr.mono (by decide)) (by rfl) T.g_are_sizes k_are_sizes b_are_sizes .nil pass0 (pa_cons (pv 2) pa_nil)))) (pw_or1 (pt_cmpR op_gt (pe_op op_sub (pe_op op_add (pv 3) (pe_callB call_len (by rfl) T.b_len (by decide +kernel) (pa_cons (pv 2) pa_nil))) pe_int) (pv 1) (nomark _)))))) (pss_one (ps_ret pe_non)) pss_nil)
    (pss_cons (ps_if (PW.pt (pw_or (pt_not (pt_val (pe_call G_is_between (hr.mono (by decide)) (by rfl) T.g_is_between k_is_between b_is_between .nil pass0 (pa_cons (pv 4) (pa_cons pe_int (pa_cons (pe_cI (by rfl) T.c_MOST_LEAST) pa_nil)))))) (pw_or1 (pt_not (pt_val (pe_call G_is_between (hr.mono (by decide)) (by rfl) T.g_is_between k_is_between b_is_between .nil pass0 (pa_cons (pv 5) (pa_cons (pv 4) (pa_cons (pe_op op_add (pv 4) (pe_cI (by rfl) T.c_MOST_MORE)) pa_nil))))))))) (pss_one (ps_ret pe_non)) pss_nil)
    (pss_one (ps_ret (pe_make T.mk_ClassRow G_ClassRow_init (hr.mono (by decide)) (by rfl) T.g_ClassRow b_ClassRow_init .nil pass0 (pa_cons (pe_ix ix_list (pv 0) pe_int (fun _ _ => rfl)) (pa_cons (pv 3) (pa_cons (pe_tup (pa_cons (pv 4) (pa_cons (pv 5) pa_nil))) (pa_cons (pv 2) pa_nil)))))))))))), ?_⟩
  obtain ⟨W, ws, last, rfl, rfl, hW, hl, hz, qn, qs⟩ := h
  refine ⟨_, rfl, _, ws.length, rfl, .inl ⟨_, SqL.of hW, by rw [List.length_map]⟩, _, _, rfl, rfl, _, rfl, ?_⟩
  by_cases h6 : ws.length < 6
  · rw [decide_eq_true (show ((ws.length : Nat) : Int) < 6 by omega)]
    refine qn ?_ _ (Same.refl _)
    unfold classRow rowOf
    match ws, h6 with
    | [], _ => rfl
    | [_], _ => rfl
    | [_, _], _ => rfl
    | [_, _, _], _ => rfl
    | [_, _, _, _], _ => rfl
    | [_, _, _, _, _], _ => rfl
    | _ :: _ :: _ :: _ :: _ :: _ :: _, h => exact absurd h (by simp)
  · rw [decide_eq_false (show ¬ ((ws.length : Nat) : Int) < 6 by omega)]
    obtain ⟨w0, nm, f, l, m, s0, ss, rfl⟩ : ∃ w0 nm f l m s0 ss, ws = w0 :: nm :: f :: l :: m :: s0 :: ss := by
      match ws, h6 with
      | [], h => exact absurd (by simp) h
      | [_], h => exact absurd (by simp) h
      | [_, _], h => exact absurd (by simp) h
      | [_, _, _], h => exact absurd (by simp) h
      | [_, _, _, _], h => exact absurd (by simp) h
      | [_, _, _, _, _], h => exact absurd (by simp) h
      | a :: b :: c :: d :: e :: f :: g, _ => exact ⟨a, b, c, d, e, f, g, rfl⟩
    refine ⟨_, rfl, W, _, _, V.str nm, rfl, rfl, SqL.of hW, atI_nat (j := 1) rfl, ?_⟩
    refine ⟨_, rfl, nm, rfl, Nat.le_trans (hz nm (by simp)) (by decide), fun H1 s1 => ⟨_, rfl, ?_⟩⟩
    have hW1 := s1 _ _ hW
    cases hnm : isName nm with
    | false =>
      refine qn (classRow_none fun r hr' ok => ?_) _ s1
      have e := (rowOk_iff.mp ok).1
      rw [(rowOf_inv hr').1, hnm] at e
      cases e
    | true =>
      refine ⟨_, rfl, 2, rfl, 5, rfl, W, _, rfl, SqL.of hW1, fun p2 hp2 => ?_⟩
      have e2 : cutV ((w0 :: nm :: f :: l :: m :: s0 :: ss).map V.str) (some 2) (some 5) = [f, l, m].map V.str := cutV_mid _ 2 5
      rw [e2]
      have s2 : Same H1 (upd H1 p2 (.lst ([f, l, m].map V.str))) := same_new hp2
      refine ⟨p2, rfl, ⟨_, SqL.of upd_same⟩, fun D hD => ?_⟩
      refine lc_words (f := fun z => optV (wholeIn z)) hD upd_same (by show 3 ≤ sizeLine; decide) ?_ ?_
      · intro z H3 Ky Kn hzm s3 ky
        refine ⟨rfl, _, rfl, _, rfl, z, rfl, hz z ?_, ky⟩
        simp only [List.mem_cons, List.not_mem_nil, or_false] at hzm
        rcases hzm with rfl | rfl | rfl <;> simp
      intro H3 s3 hD3
      have hD3 : H3 D = some (.lst [optV (wholeIn f), optV (wholeIn l), optV (wholeIn m)]) := hD3
      refine ⟨D, _, rfl, SqL.of hD3, rfl, _, _, rfl, _, _, rfl, _, _, rfl, rfl, ?_⟩
      have s13 : Same H1 H3 := s2.trans s3
      have hW3 := s13 _ _ hW1
      refine ⟨_, rfl, 5, rfl, W, _, rfl, SqL.of hW3, fun p4 hp4 => ?_⟩
      have e5 : cutV ((w0 :: nm :: f :: l :: m :: s0 :: ss).map V.str) (some 5) none = (s0 :: ss).map V.str := cutV_drop _ 5
      rw [e5]
      have s4 : Same H3 (upd H3 p4 (.lst ((s0 :: ss).map V.str))) := same_new hp4
      have hls : (s0 :: ss).length ≤ 1000 := by
        simp only [List.length_cons] at hl ⊢
        omega
      refine ⟨p4, rfl, ⟨_, SqL.of upd_same⟩, fun D5 hD5 => ?_⟩
      refine lc_words (f := fun z => optV (wholeIn z)) hD5 upd_same (Nat.le_trans hls (by decide)) ?_ ?_
      · intro z H5 Ky Kn hzm s5 ky
        refine ⟨rfl, _, rfl, _, rfl, z, rfl, hz z ?_, ky⟩
        rcases List.mem_cons.mp hzm with rfl | h
        · simp
        · simp [h]
      intro H5 s5 hD5'
      have hD5' : H5 D5 = some (.lst (((s0 :: ss).map wholeIn).map optV)) := by
        rw [hD5', List.map_map]
        rfl
      have hrow := fun r => rowOf_inv (w0 := w0) (nm := nm) (f := f) (l := l) (m := m) (s0 := s0) (ss := ss) (r := r)
      have hlo : ((s0 :: ss).map wholeIn).length ≤ 1000 := by rw [List.length_map]; exact hls
      have hcs : ∀ r, rowOf (w0 :: nm :: f :: l :: m :: s0 :: ss) = some r → rowOk r last = true → classRow (w0 :: nm :: f :: l :: m :: s0 :: ss) last = some r := fun r h1 h2 => by
        unfold classRow
        rw [h1]
        exact if_pos h2
      have hmk : ∀ fi li mi ns, wholeIn f = some fi → wholeIn l = some li → wholeIn m = some mi → intsOf ((s0 :: ss).map wholeIn) = some ns → rowOf (w0 :: nm :: f :: l :: m :: s0 :: ss) = some ⟨nm, fi, li, mi, ns⟩ := fun fi li mi ns h1 h2 h3 h4 => by
        unfold rowOf
        dsimp only
        rw [h1, h2, h3, h4]
      generalize (s0 :: ss).map wholeIn = os at hD5' hrow hlo hmk ⊢
      refine ⟨D5, _, rfl, .inl ⟨SqL.of hD5', fun t6 ht6 => ?_⟩⟩
      have s6 : Same H5 (upd H5 t6 (.tup (os.map optV))) := same_new ht6
      have s16 : Same H (upd H5 t6 (.tup (os.map optV))) := s1.trans (s13.trans (s4.trans (s5.trans s6)))
      have ht6' : upd H5 t6 (.tup (os.map optV)) t6 = some (.tup (os.map optV)) := upd_same
      generalize upd H5 t6 (.tup (os.map optV)) = H6 at s16 ht6' ⊢
      refine ⟨_, rfl, _, rfl, _, _, _, rfl, 0, last, rfl, rfl, optV_kn _, _, rfl, ?_⟩
      cases hf : wholeIn f with
      | none =>
        refine qn (classRow_none fun r hr' ok => ?_) _ s16
        have e := (hrow r hr').2.1
        rw [hf] at e
        cases e
      | some fi =>
        cases hb : betw (optV (some fi)) 0 last with
        | false =>
          refine qn (classRow_none fun r hr' ok => ?_) _ s16
          have e := (hrow r hr').2.1
          rw [hf] at e
          have e := Option.some.inj e
          have h := rowOk_iff.mp ok
          have hp := sizesOk_pos h.2.2.1
          have : betw (.int fi) 0 last = true := betw_int.mpr ⟨by omega, by omega⟩
          rw [show betw (.int fi) 0 last = betw (optV (some fi)) 0 last from rfl, hb] at this
          cases this
        | true =>
          refine ⟨_, rfl, _, rfl, t6, os, rfl, ht6', hlo, fun H7 s7 => ⟨_, rfl, ?_⟩⟩
          cases hs : areSizes os with
          | false =>
            refine qn (classRow_none fun r hr' ok => ?_) _ (s16.trans s7)
            have e := (hrow r hr').2.2.2.2
            unfold areSizes at hs
            rw [e] at hs
            have hs : sizesOk r.sizes = false := hs
            rw [(rowOk_iff.mp ok).2.2.1] at hs
            cases hs
          | true =>
            obtain ⟨ns, hns, hok⟩ := areSizes_some hs
            have hlen : os.length = ns.length := by rw [intsOf_some hns, List.length_map]
            refine ⟨_, rfl, _, rfl, _, ns.length, rfl, .inr ⟨_, SqT.of (s7 _ _ ht6'), by rw [List.length_map, hlen]⟩, _, _, rfl, rfl, _, _, rfl, rfl, _, rfl, _, _, rfl, rfl, _, rfl, ?_⟩
            by_cases hla : last < fi + (ns.length : Nat) - 1
            · rw [decide_eq_true hla]
              refine qn (classRow_none fun r hr' ok => ?_) _ (s16.trans s7)
              have e := (hrow r hr').2.2.2.2
              rw [hns] at e
              have e := Option.some.inj e
              have e1 := (hrow r hr').2.1
              rw [hf] at e1
              have e1 := Option.some.inj e1
              have := (rowOk_iff.mp ok).2.2.2.1
              rw [← e, ← e1] at this
              omega
            · rw [decide_eq_false hla]
              refine ⟨_, rfl, _, _, _, rfl, 1, 9, rfl, rfl, optV_kn _, _, rfl, ?_⟩
              cases hli : wholeIn l with
              | none =>
                refine qn (classRow_none fun r hr' ok => ?_) _ (s16.trans s7)
                have e := (hrow r hr').2.2.1
                rw [hli] at e
                cases e
              | some li =>
                cases hb2 : betw (optV (some li)) 1 9 with
                | false =>
                  refine qn (classRow_none fun r hr' ok => ?_) _ (s16.trans s7)
                  have e := (hrow r hr').2.2.1
                  rw [hli] at e
                  have e := Option.some.inj e
                  have h := rowOk_iff.mp ok
                  have : betw (.int li) 1 9 = true := betw_int.mpr ⟨by omega, by omega⟩
                  rw [show betw (.int li) 1 9 = betw (optV (some li)) 1 9 from rfl, hb2] at this
                  cases this
                | true =>
                  refine ⟨_, rfl, _, rfl, _, rfl, _, _, rfl, rfl, _, _, _, rfl, li, li + 3, rfl, rfl, optV_kn _, _, rfl, ?_⟩
                  cases hmi : wholeIn m with
                  | none =>
                    refine qn (classRow_none fun r hr' ok => ?_) _ (s16.trans s7)
                    have e := (hrow r hr').2.2.2.1
                    rw [hmi] at e
                    cases e
                  | some mi =>
                    cases hb3 : betw (optV (some mi)) li (li + 3) with
                    | false =>
                      refine qn (classRow_none fun r hr' ok => ?_) _ (s16.trans s7)
                      have e := (hrow r hr').2.2.2.1
                      rw [hmi] at e
                      have e := Option.some.inj e
                      have e1 := (hrow r hr').2.2.1
                      rw [hli] at e1
                      have e1 := Option.some.inj e1
                      have h := rowOk_iff.mp ok
                      have : betw (.int mi) li (li + 3) = true := betw_int.mpr ⟨by omega, by omega⟩
                      rw [show betw (.int mi) li (li + 3) = betw (optV (some mi)) li (li + 3) from rfl, hb3] at this
                      cases this
                    | true =>
                      have b1 := betw_int.mp (show betw (.int fi) 0 last = true from hb)
                      have b2 := betw_int.mp (show betw (.int li) 1 9 = true from hb2)
                      have b3 := betw_int.mp (show betw (.int mi) li (li + 3) = true from hb3)
                      have hR := hmk fi li mi ns hf hli hmi hns
                      have hW7 : H7 W = some (.lst ((w0 :: nm :: f :: l :: m :: s0 :: ss).map V.str)) := (s16.trans s7) _ _ hW
                      refine ⟨_, rfl, W, _, _, V.str nm, rfl, rfl, SqL.of hW7, atI_nat (j := 1) rfl, _, rfl, _, rfl, _, rfl, (by show 2 ≤ sizeLine; decide), fun t8 ht8 => ?_⟩
                      refine ⟨_, rfl, fun x dx hx hdx ne => ?_⟩
                      have hn8 : x ≠ t8 := fun e => by rw [e, upd_same] at hx; cases hx
                      have hn8' : dx ≠ t8 := fun e => by rw [e, upd_same] at hdx; cases hdx
                      refine ⟨_, _, _, _, _, rfl, x, dx, rfl, upd_same, fun H9 o9 h9 => ⟨rfl, ?_⟩⟩
                      have ht7 : H7 t6 = some (.tup (ns.map V.int)) := by
                        rw [s7 _ _ ht6', intsOf_some hns, List.map_map]
                        rfl
                      have s9 : Same H7 H9 := fun b o hb => by
                        have n1 : b ≠ t8 := ne_of_none hb ht8
                        have n2 : b ≠ x := fun e => by rw [e] at hb; rw [upd_ne hn8, hb] at hx; cases hx
                        have n3 : b ≠ dx := fun e => by rw [e] at hb; rw [upd_ne hn8', hb] at hdx; cases hdx
                        rw [o9 b n2, upd_ne n2, upd_ne n3, upd_ne n1]
                        exact hb
                      refine qs _ (hcs _ hR (rowOk_iff.mpr ⟨hnm, b1.1, hok, by show fi + (ns.length : Int) - 1 ≤ last; omega, b2.1, b2.2, b3.1, b3.2⟩)) _ _ (s16.trans (s7.trans s9)) ⟨x, dx, t8, t6, rfl, h9, ?_, s9 _ _ ht7⟩
                      rw [o9 t8 (Ne.symm hn8), upd_ne (Ne.symm hn8), upd_ne (Ne.symm hn8'), upd_same]
                      rfl
end
end SK

set_option maxHeartbeats 4000000
namespace SL
open PySem PySem.Spec PyProof.Rows L2
structure RSt where
  sort : Str
  last : Int
  rows : List Row
  beside : List (Nat × Nat)
  far : List ((Nat × Nat) × Int)
def pairD (p : Nat × Nat) : PyData := .tuple [.int p.1, .int p.2]
def farD (p : (Nat × Nat) × Int) : PyData := .tuple [pairD p.1, .int p.2]
theorem pairD_fz (l : List (Nat × Nat)) : fzAll (l.map pairD) = true := fzAll_iff.mpr fun d hd => by
  obtain ⟨p, _, rfl⟩ := List.mem_map.mp hd
  simp [pairD, fz, fzAll]
theorem farD_fz (l : List ((Nat × Nat) × Int)) : fzAll (l.map farD) = true := fzAll_iff.mpr fun d hd => by
  obtain ⟨p, _, rfl⟩ := List.mem_map.mp hd
  simp [farD, pairD, fz, fzAll]
def RowsAt (C : Addr) (H : Hp) (vs : List V) (rs : List Row) : Prop := Paired (RowAt C H) vs rs
theorem RowsAt.same {C : Addr} {H H' : Hp} (s : Same H H') {vs : List V} {rs : List Row} (h : RowsAt C H vs rs) : RowsAt C H' vs rs := Paired.mono (fun _ _ x => RowAt.same s x) h
/-- what no row is made of -/
def NotRow (o : HO) : Prop := (∀ xs, o ≠ .tup xs) ∧ ∀ C dx n r, o ≠ .ins C dx (("own_name", n) :: r)
theorem NotRow.lst (xs : List V) : NotRow (.lst xs) := ⟨fun _ h => (nomatch h), fun _ _ _ _ h => (nomatch h)⟩
theorem NotRow.rd {C dx : Addr} {v : V} {r : List (Str × V)} : NotRow (.ins C dx (("own_sort", v) :: r)) := ⟨fun _ h => (nomatch h), fun C dx n r h => by
  have h1 := (HO.ins.inj h).2.2
  have h2 := congrArg Prod.fst (List.cons.inj h1).1
  exact absurd h2 (show ("own_sort" : Str) ≠ "own_name" by decide)⟩
theorem RowAt.upd {C p : Addr} {H : Hp} {o o' : HO} {v : V} {r : Row} (h : RowAt C H v r) (hp : H p = some o) (ho : NotRow o) : RowAt C (L2.upd H p o') v r := by
  obtain ⟨c, dx, t1, t2, e, h1, h2, h3⟩ := h
  have n1 : c ≠ p := fun z => by rw [z, hp] at h1; exact ho.2 _ _ _ _ (Option.some.inj h1)
  have n2 : t1 ≠ p := fun z => by rw [z, hp] at h2; exact ho.1 _ (Option.some.inj h2)
  have n3 : t2 ≠ p := fun z => by rw [z, hp] at h3; exact ho.1 _ (Option.some.inj h3)
  exact ⟨c, dx, t1, t2, e, by rw [upd_ne n1]; exact h1, by rw [upd_ne n2]; exact h2, by rw [upd_ne n3]; exact h3⟩
theorem RowsAt.upd {C p : Addr} {H : Hp} {o o' : HO} {vs : List V} {rs : List Row} (h : RowsAt C H vs rs) (hp : H p = some o) (ho : NotRow o) : RowsAt C (L2.upd H p o') vs rs := Paired.mono (fun _ _ x => RowAt.upd x hp ho) h
theorem RowsAt.get {C : Addr} {H : Hp} : ∀ {vs : List V} {rs : List Row} {i : Nat} {v : V}, RowsAt C H vs rs → vs[i]? = some v → ∃ r, rs[i]? = some r ∧ RowAt C H v r
  | _, _, 0, v, .cons h r, e => by
    have := Option.some.inj (show some _ = some _ from e)
    subst this
    exact ⟨_, rfl, h⟩
  | _, _, i + 1, v, .cons h r, e => by
    obtain ⟨x, e1, e2⟩ := RowsAt.get r (i := i) (by simpa using e)
    exact ⟨x, by simpa using e1, e2⟩
theorem RowsAt.len {C : Addr} {H : Hp} {vs : List V} {rs : List Row} (h : RowsAt C H vs rs) : vs.length = rs.length := Paired.length h
/-- a reader's object -/
structure RAt (CR CW : Addr) (H : Hp) (r dx a1 a2 a3 : Addr) (st : RSt) : Prop where
  obj : H r = some (.ins CR dx [("own_sort", .str st.sort), ("own_last", .int st.last), ("own_rows", .ref a1), ("own_beside", .ref a2), ("own_far", .ref a3)])
  rows : ∃ vs, H a1 = some (.lst vs) ∧ RowsAt CW H vs st.rows
  beside : ∃ vs, H a2 = some (.lst vs) ∧ RvL H vs (st.beside.map pairD)
  far : ∃ vs, H a3 = some (.lst vs) ∧ RvL H vs (st.far.map farD)
  d12 : a1 ≠ a2
  d13 : a1 ≠ a3
  d23 : a2 ≠ a3
/-- all but the reader's parts stay -/
def Rk (r a1 a2 a3 : Addr) (H H' : Hp) : Prop := ∀ b o, b ≠ r → b ≠ a1 → b ≠ a2 → b ≠ a3 → H b = some o → H' b = some o
theorem Rk.of {r a1 a2 a3 : Addr} {H H' : Hp} (s : Same H H') : Rk r a1 a2 a3 H H' := fun b o _ _ _ _ h => s b o h
theorem Rk.trans {r a1 a2 a3 : Addr} {H H1 H2 : Hp} (a : Rk r a1 a2 a3 H H1) (b : Rk r a1 a2 a3 H1 H2) : Rk r a1 a2 a3 H H2 := fun c o h1 h2 h3 h4 h => b c o h1 h2 h3 h4 (a c o h1 h2 h3 h4 h)
section
variable {CR CW r dx a1 a2 a3 : Addr} {H H' : Hp} {st : RSt}
theorem RAt.same (s : Same H H') (h : RAt CR CW H r dx a1 a2 a3 st) : RAt CR CW H' r dx a1 a2 a3 st := by
  obtain ⟨h1, ⟨v1, h2, h2'⟩, ⟨v2, h3, h3'⟩, ⟨v3, h4, h4'⟩, d1, d2, d3⟩ := h
  exact ⟨s _ _ h1, ⟨v1, s _ _ h2, h2'.same s⟩, ⟨v2, s _ _ h3, h3'.same s⟩, ⟨v3, s _ _ h4, h4'.same s⟩, d1, d2, d3⟩
theorem RAt.n1 (h : RAt CR CW H r dx a1 a2 a3 st) : a1 ≠ r := by
  obtain ⟨vs, h2, _⟩ := h.rows
  exact ne_of h2 h.obj fun z => nomatch z
theorem RAt.n2 (h : RAt CR CW H r dx a1 a2 a3 st) : a2 ≠ r := by
  obtain ⟨vs, h2, _⟩ := h.beside
  exact ne_of h2 h.obj fun z => nomatch z
theorem RAt.n3 (h : RAt CR CW H r dx a1 a2 a3 st) : a3 ≠ r := by
  obtain ⟨vs, h2, _⟩ := h.far
  exact ne_of h2 h.obj fun z => nomatch z
theorem RAt.setObj {sort : Str} {last : Int} (h : RAt CR CW H r dx a1 a2 a3 st) :
    RAt CR CW (upd H r (.ins CR dx [("own_sort", .str sort), ("own_last", .int last), ("own_rows", .ref a1), ("own_beside", .ref a2), ("own_far", .ref a3)])) r dx a1 a2 a3 { st with sort := sort, last := last } := by
  have n1 := h.n1
  have n2 := h.n2
  have n3 := h.n3
  obtain ⟨h1, ⟨v1, h2, h2'⟩, ⟨v2, h3, h3'⟩, ⟨v3, h4, h4'⟩, d1, d2, d3⟩ := h
  have tk : Tk H (upd H r (.ins CR dx [("own_sort", .str sort), ("own_last", .int last), ("own_rows", .ref a1), ("own_beside", .ref a2), ("own_far", .ref a3)])) := Tk.upd fun xs e => by rw [h1] at e; cases e
  exact ⟨upd_same, ⟨v1, by rw [upd_ne n1]; exact h2, h2'.upd h1 NotRow.rd⟩, ⟨v2, by rw [upd_ne n2]; exact h3, h3'.tk tk (pairD_fz _)⟩, ⟨v3, by rw [upd_ne n3]; exact h4, h4'.tk tk (farD_fz _)⟩, d1, d2, d3⟩
theorem RAt.addRow {v : V} {row : Row} {vs : List V} (h : RAt CR CW H r dx a1 a2 a3 st) (hv : H a1 = some (.lst vs)) (hr : RowAt CW H v row) :
    RAt CR CW (upd H a1 (.lst (vs ++ [v]))) r dx a1 a2 a3 { st with rows := st.rows ++ [row] } := by
  have n1 := h.n1
  obtain ⟨h1, ⟨v1, h2, h2'⟩, ⟨v2, h3, h3'⟩, ⟨v3, h4, h4'⟩, d1, d2, d3⟩ := h
  have e : v1 = vs := by
    rw [h2] at hv
    exact HO.lst.inj (Option.some.inj hv)
  subst e
  have tk : Tk H (upd H a1 (.lst (v1 ++ [v]))) := Tk.updL h2
  exact ⟨by rw [upd_ne (Ne.symm n1)]; exact h1, ⟨_, upd_same, (h2'.upd h2 (.lst _)).snoc (hr.upd h2 (.lst _))⟩, ⟨v2, by rw [upd_ne (Ne.symm d1)]; exact h3, h3'.tk tk (pairD_fz _)⟩, ⟨v3, by rw [upd_ne (Ne.symm d2)]; exact h4, h4'.tk tk (farD_fz _)⟩, d1, d2, d3⟩
theorem RAt.addBeside {v : V} {p : Nat × Nat} {vs : List V} (h : RAt CR CW H r dx a1 a2 a3 st) (hv : H a2 = some (.lst vs)) (hr : Rv H v (pairD p)) :
    RAt CR CW (upd H a2 (.lst (vs ++ [v]))) r dx a1 a2 a3 { st with beside := st.beside ++ [p] } := by
  have n2 := h.n2
  obtain ⟨h1, ⟨v1, h2, h2'⟩, ⟨v2, h3, h3'⟩, ⟨v3, h4, h4'⟩, d1, d2, d3⟩ := h
  have e : v2 = vs := by
    rw [h3] at hv
    exact HO.lst.inj (Option.some.inj hv)
  subst e
  have tk : Tk H (upd H a2 (.lst (v2 ++ [v]))) := Tk.updL h3
  refine ⟨by rw [upd_ne (Ne.symm n2)]; exact h1, ⟨_, by rw [upd_ne d1]; exact h2, h2'.upd h3 (.lst _)⟩, ⟨_, upd_same, ?_⟩, ⟨v3, by rw [upd_ne (Ne.symm d3)]; exact h4, h4'.tk tk (farD_fz _)⟩, d1, d2, d3⟩
  rw [List.map_append]
  exact (h3'.tk tk (pairD_fz _)).snoc (hr.tk tk (by simp [pairD, fz, fzAll]))
theorem RAt.addFar {v : V} {p : (Nat × Nat) × Int} {vs : List V} (h : RAt CR CW H r dx a1 a2 a3 st) (hv : H a3 = some (.lst vs)) (hr : Rv H v (farD p)) :
    RAt CR CW (upd H a3 (.lst (vs ++ [v]))) r dx a1 a2 a3 { st with far := st.far ++ [p] } := by
  have n3 := h.n3
  obtain ⟨h1, ⟨v1, h2, h2'⟩, ⟨v2, h3, h3'⟩, ⟨v3, h4, h4'⟩, d1, d2, d3⟩ := h
  have e : v3 = vs := by
    rw [h4] at hv
    exact HO.lst.inj (Option.some.inj hv)
  subst e
  have tk : Tk H (upd H a3 (.lst (v3 ++ [v]))) := Tk.updL h4
  refine ⟨by rw [upd_ne (Ne.symm n3)]; exact h1, ⟨_, by rw [upd_ne d2]; exact h2, h2'.upd h4 (.lst _)⟩, ⟨v2, by rw [upd_ne d3]; exact h3, h3'.tk tk (pairD_fz _)⟩, ⟨_, upd_same, ?_⟩, d1, d2, d3⟩
  rw [List.map_append]
  exact (h4'.tk tk (farD_fz _)).snoc (hr.tk tk (by simp [farD, pairD, fz, fzAll]))
end
theorem inV_str (z : Str) : ∀ ns : List Str, inV (.str z) (ns.map V.str) = decide (z ∈ ns)
  | [] => by simp [inV]
  | n :: ns => by
    have ih := inV_str z ns
    unfold inV at ih ⊢
    rw [List.map_cons, List.any_cons, ih]
    show ((n == z) || _) = _
    by_cases h : n = z
    · subst h
      simp
    · rw [beq_eq_false_iff_ne.mpr h, Bool.false_or]
      simp [Ne.symm h]
theorem flat_strs (ns : List Str) : (ns.map V.str).all flatV = true := by
  rw [List.all_map]
  exact List.all_eq_true.mpr fun _ _ => rfl
theorem idx_str {ns : List Str} {z : Str} (h : z ∈ ns) : (ns.map V.str)[ns.idxOf z]? = some (V.str z) ∧ eqV (V.str z) (V.str z) = true ∧ ∀ (m : Nat) (z' : V), m < ns.idxOf z → (ns.map V.str)[m]? = some z' → eqV z' (V.str z) = false := by
  refine ⟨?_, beq_self_eq_true z, fun m z' hm he => ?_⟩
  · have hlt := List.idxOf_lt_length_of_mem h
    have e : ns[ns.idxOf z]'hlt = z := by
      have := List.findIdx_getElem (p := (· == z)) (xs := ns) (w := hlt)
      exact beq_iff_eq.mp this
    rw [List.getElem?_map, List.getElem?_eq_getElem hlt, e]
    rfl
  · rw [List.getElem?_map] at he
    obtain ⟨y, hy, rfl⟩ := Option.map_eq_some_iff.mp he
    show (y == z) = false
    refine beq_eq_false_iff_ne.mpr fun e => ?_
    subst e
    have hlt := List.idxOf_lt_length_of_mem h
    have := List.not_of_lt_findIdx (p := (· == y)) (xs := ns) (i := m) hm
    have e2 : ns[m]'(by omega) = y := by
      have := List.getElem?_eq_getElem (l := ns) (i := m) (by omega)
      rw [hy] at this
      exact (Option.some.inj this).symm
    rw [e2] at this
    simp at this
/-- two names' places -/
def pairOf (ns : List Str) (a b : Str) : Option (Nat × Nat) := if a ∈ ns ∧ b ∈ ns then (if ns.idxOf a ≤ ns.idxOf b then some (ns.idxOf a, ns.idxOf b) else none) else none
/-- the names of rows -/
theorem lc_rows {K : PySem.W.Frag} {C W : Addr} {vs : List V} {rs : List Row} {g : TG} {tt : TT} {te : TE} {ow : List Nat} {σ : L2.St} {H1 : Hp} {D : Addr} {Qd : Hp → Prop} (hD : H1 D = none) (hW : H1 W = some (.lst vs)) (hR : RowsAt C H1 vs rs) (hn : rs.length ≤ sizeLine)
    (hs : ∀ v r H (Ky : V → Hp → Prop) (Kn : Hp → Prop), Same H1 H → RowAt C H v r → Ky (.str r.name) H → g v (wipe σ ow) H fun σ2 H2 => wipe σ2 ow = wipe σ ow ∧ tt σ2 H2 fun b H3 => if b = true then te σ2 H3 Ky else Kn H3)
    (hd : ∀ H, Same H1 H → H D = some (.lst ((rs.map (·.name)).map V.str)) → Qd H) :
    ∃ W' : Nat → Nat → Hp → Prop, (∃ m, W' 0 m (upd H1 D (.lst []))) ∧ ∀ i m H, W' i m H →
      ((Itl K W).stop i H ∧ Qd H) ∨ ((Itl K W).go i H ∧ ∃ Nx : Hp → Prop, (∀ H', Nx H' → ∃ m', m' < m ∧ W' (i + 1) m' H') ∧ ∀ x H', (Itl K W).yld i H x H' → g x (wipe σ ow) H' fun σ2 H2 => wipe σ2 ow = wipe σ ow ∧ tt σ2 H2 fun b H3 =>
        if b = true then te σ2 H3 fun y H4 => ∃ acc, H4 D = some (.lst acc) ∧ acc.length < sizeLine ∧ Nx (upd H4 D (.lst (acc ++ [y]))) else Nx H3) := by
  refine lc_fm (walk_list (xs := vs)) (fun i => some ((rs[i]?.map fun r => V.str r.name).getD .non)) hD (by rw [hR.len]; exact hn) (fun H s => SqL.of (s _ _ hW)) ?_ (fun H s h => hd H s ?_)
  · rintro i x H H' Ky Kn hi s1 ⟨rfl, hx⟩ k _
    obtain ⟨r, hr, hra⟩ := hR.get hx
    refine hs x r H' Ky Kn s1 (hra.same s1) (k _ _ ?_ (Same.refl _))
    rw [hr]
    rfl
  · rw [h, fm_some, hR.len, map_get rs (fun r => V.str r.name), List.map_map]
    rfl
end SL
namespace SK
open PySem PySem.Spec PyProof.Rows L2 SL
section
variable {w : World} {K : PySem.W.Frag} {mg : Str → Option Value} {base : Heap}
abbrev cRd (K : PySem.W.Frag) : Addr := He.ga K "Reader"
def st0 : RSt := ⟨"", 0, [], [], []⟩
def spRdInit (K : PySem.W.Frag) : Sp := sp1 fun self H Q _ => ∃ r dx, self = .ref r ∧ H r = some (.ins (cRd K) dx []) ∧
  ∀ H' a1 a2 a3, (∀ b o, b ≠ r → H b = some o → H' b = some o) → H a1 = none → H a2 = none → H a3 = none → RAt (cRd K) (cRow K) H' r dx a1 a2 a3 st0 → Q .non H'
abbrev n_Reader_init : List Str := ["self"]
theorem sc_Reader_init : FnScope n_Reader_init ["self"] (defScope d_Reader_init) := ⟨rfl, rfl, rfl, by decide +kernel, rfl, by decide +kernel, by decide +kernel⟩
theorem ok_Reader_init (T : Top w K mg) : Has prg w K mg base CX0 1 (He.ma K (He.ga K "Reader") "__init__") ["self"] (spRdInit K) := by
  obtain ⟨fd, F⟩ := T.F_Reader_init
  refine ⟨fd, F.ok (k := 0) sc_Reader_init (fun _ _ _ _ h => sp1_len h) (fun cdv A outer s H vs Q E hr h => ?_), F.bindsN (fun _ _ _ _ _ _ us hl => match us, hl with | [_], _ => rfl), F.kp⟩
  obtain ⟨v0, rfl, h⟩ := h
  refine ⟨_, PSs.nox (pss_cons (ps_fld (pv 0) pe_str rfl)
    (pss_cons (ps_fld (pv 0) pe_int rfl)
    (pss_cons (ps_fld (pv 0) (pe_lst pa_nil) rfl)
    (pss_cons (ps_fld (pv 0) (pe_lst pa_nil) rfl)
    (pss_one (ps_fld (pv 0) (pe_lst pa_nil) rfl)))))), ?_⟩
  obtain ⟨r, dx, rfl, hr', q⟩ := h
  refine ⟨_, rfl, r, _, dx, _, rfl, hr', T.cl_Reader, T.na_Reader_own_sort, by decide, ?_⟩
  refine ⟨_, rfl, r, _, dx, _, rfl, upd_same, T.cl_Reader, T.na_Reader_own_last, by show 1 < 1000; decide, ?_⟩
  refine ⟨(by show 0 ≤ sizeLine; decide), fun a1 h1 => ?_⟩
  have n1 : a1 ≠ r := fun e => by rw [e, upd_same] at h1; cases h1
  refine ⟨_, rfl, r, _, dx, _, rfl, by rw [upd_ne (Ne.symm n1), upd_same], T.cl_Reader, T.na_Reader_own_rows, by show 2 < 1000; decide, ?_⟩
  refine ⟨(by show 0 ≤ sizeLine; decide), fun a2 h2 => ?_⟩
  have n2 : a2 ≠ r := fun e => by rw [e, upd_same] at h2; cases h2
  rw [upd_ne n2] at h2
  have d12 : a2 ≠ a1 := fun e => by rw [e, upd_same] at h2; cases h2
  refine ⟨_, rfl, r, _, dx, _, rfl, by rw [upd_ne (Ne.symm n2), upd_same], T.cl_Reader, T.na_Reader_own_beside, by show 3 < 1000; decide, ?_⟩
  refine ⟨(by show 0 ≤ sizeLine; decide), fun a3 h3 => ?_⟩
  have n3 : a3 ≠ r := fun e => by rw [e, upd_same] at h3; cases h3
  rw [upd_ne n3] at h3
  have d13 : a3 ≠ a2 := fun e => by rw [e, upd_same] at h3; cases h3
  rw [upd_ne d13, upd_ne n3] at h3
  have d14 : a3 ≠ a1 := fun e => by rw [e, upd_same] at h3; cases h3
  refine ⟨_, rfl, r, _, dx, _, rfl, by rw [upd_ne (Ne.symm n3), upd_same], T.cl_Reader, T.na_Reader_own_far, by show 4 < 1000; decide, ?_⟩
  rw [upd_ne d12, upd_ne n2, upd_ne n2] at h2
  rw [upd_ne d14, upd_ne n3, upd_ne n3] at h3
  rw [upd_ne n1, upd_ne n1] at h1
  refine q _ a1 a2 a3 (fun b o hb e => ?_) h1 h2 h3 ⟨upd_same, ⟨[], ?_, .nil⟩, ⟨[], ?_, .nil⟩, ⟨[], ?_, .nil⟩, Ne.symm d12, Ne.symm d14, Ne.symm d13⟩
  · rw [upd_ne hb, upd_ne (ne_of_none e h3), upd_ne hb, upd_ne (ne_of_none e h2), upd_ne hb, upd_ne (ne_of_none e h1), upd_ne hb, upd_ne hb]
    exact e
  · rw [upd_ne n1, upd_ne (Ne.symm d14), upd_ne n1, upd_ne (Ne.symm d12), upd_ne n1, upd_same]
  · rw [upd_ne n2, upd_ne (Ne.symm d13), upd_ne n2, upd_same]
  · rw [upd_ne n3, upd_same]
def spPairOf (K : PySem.W.Frag) : Sp := sp2 fun self wv H Q _ => ∃ r dx a1 a2 a3 st W a b, self = .ref r ∧ wv = .ref W ∧ RAt (cRd K) (cRow K) H r dx a1 a2 a3 st ∧ H W = some (.lst [.str a, .str b]) ∧ st.rows.length ≤ 1000 ∧
  (pairOf (st.rows.map (·.name)) a b = none → ∀ H', Same H H' → Q .non H') ∧ (∀ p, pairOf (st.rows.map (·.name)) a b = some p → ∀ H' t, Same H H' → H' t = some (.tup [.int p.1, .int p.2]) → Q (.ref t) H')
abbrev n_Reader_pair_of : List Str := ["self", "words", "names", "one", "other", "row", "word"]
theorem sc_Reader_pair_of : FnScope n_Reader_pair_of ["self", "words"] (defScope d_Reader_pair_of) := ⟨rfl, rfl, rfl, by decide +kernel, rfl, by decide +kernel, by decide +kernel⟩
theorem ok_Reader_pair_of (T : Top w K mg) : Has prg w K mg base CX0 1 (He.ma K (He.ga K "Reader") "pair_of") ["self", "words"] (spPairOf K) := by
  obtain ⟨fd, F⟩ := T.F_Reader_pair_of
  refine ⟨fd, F.ok (k := 0) sc_Reader_pair_of (fun _ _ _ _ h => sp2_len h) (fun cdv A outer s H vs Q E hr h => ?_), F.bindsN (fun _ _ _ _ _ _ us hl => match us, hl with | [_, _], _ => rfl), F.kp⟩
  obtain ⟨v0, v1, rfl, h⟩ := h
  refine ⟨_, PSs.nox (pss_cons (ps_set (i := 2) sc_Reader_pair_of.nd rfl (Or.inr rfl) (pe_lc (own := [("row", 5)]) (g := gName 5) (by rfl) sc_Reader_pair_of.nd (pi_list (pe_fld (pv 0) rfl)) (blkOk_by (N := n_Reader_pair_of) (sc := defScope d_Reader_pair_of) (own := [("row", 5)]) (by decide +kernel)) (fun _ _ _ _ _ => (pg_name (i := 5) sc_Reader_pair_of.nd rfl (Or.inl rfl) (.inr rfl))) (fun _ _ _ _ _ => pts_nil) (fun _ _ _ _ _ => (pe_fldK (K := K) rfl (pv 5) rfl))))
    (pss_cons (ps_if (pt_not (pt_val (pe_callB (cr_all rfl) (by rfl) T.b_all (by decide +kernel) (pa_cons (pe_lc (own := [("word", 6)]) (g := gName 6) (by rfl) sc_Reader_pair_of.nd (pi_list (pv 1)) (blkOk_by (N := n_Reader_pair_of) (sc := defScope d_Reader_pair_of) (own := [("word", 6)]) (by decide +kernel)) (fun _ _ _ _ _ => (pg_name (i := 6) sc_Reader_pair_of.nd rfl (Or.inl rfl) (.inr rfl))) (fun _ _ _ _ _ => pts_nil) (fun _ _ _ _ _ => (pe_cmpR (op_in_seqK (K := K) rfl) (pv 6) (pv 2) (by rfl)))) pa_nil)))) (pss_one (ps_ret pe_non)) pss_nil)
    (pss_cons (ps_asg (pe_lc (own := [("word", 6)]) (g := gName 6) (by rfl) sc_Reader_pair_of.nd (pi_list (pv 1)) (blkOk_by (N := n_Reader_pair_of) (sc := defScope d_Reader_pair_of) (own := [("word", 6)]) (by decide +kernel)) (fun _ _ _ _ _ => (pg_name (i := 6) sc_Reader_pair_of.nd rfl (Or.inl rfl) (.inr rfl))) (fun _ _ _ _ _ => pts_nil) (fun _ _ _ _ _ => (pe_bmK (K := K) rfl PySem.F.plainAttrs_list PySem.F.slot_list_index PySem.F.type_list_index (mt_indexK (K := K) rfl) (pv 2) (pa_cons (pv 6) pa_nil)))) (pg_unl rfl (pgs_cons (pg_name (i := 3) sc_Reader_pair_of.nd rfl (Or.inl rfl)) (pgs_cons (pg_name (i := 4) sc_Reader_pair_of.nd rfl (Or.inl rfl)) pgs_nil))))
    (pss_one (ps_ret (pe_ifExp (pt_cmpR op_le (pv 3) (pv 4) (nomark _)) (pe_tup (pa_cons (pv 3) (pa_cons (pv 4) pa_nil))) pe_non)))))), ?_⟩
  obtain ⟨r, dx, a1, a2, a3, st, W, a, b, rfl, rfl, R, hW, hl, qn, qs⟩ := h
  obtain ⟨vs, hv, hR⟩ := R.rows
  refine ⟨_, rfl, r, _, dx, _, _, rfl, R.obj, T.cl_Reader, T.na_Reader_own_rows, rfl, a1, rfl, ⟨_, SqL.of hv⟩, fun D hD => ?_⟩
  refine lc_rows hD hv hR (Nat.le_trans hl (by decide)) ?_ ?_
  · rintro v row H1 Ky Kn s1 ⟨c, dc, t1, t2, rfl, h1, h2, h3⟩ k
    exact ⟨rfl, _, rfl, c, _, dc, _, _, rfl, h1, T.cl_ClassRow, T.na_ClassRow_own_name, rfl, k⟩
  intro H1 s1 hD1
  have hW1 := s1 _ _ hW
  generalize hns : st.rows.map (·.name) = ns at hD1 qn qs
  refine ⟨_, rfl, W, rfl, ⟨_, SqL.of hW1⟩, fun D2 hD2 => ?_⟩
  refine lc_words (ws := [a, b]) (f := fun z => V.bl (decide (z ∈ ns))) hD2 hW1 (by show 2 ≤ sizeLine; decide) ?_ ?_
  · intro z H2 Ky Kn hz s2 k
    refine ⟨rfl, _, rfl, _, rfl, D, _, rfl, .inl (SqL.of (s2 _ _ hD1)), rfl, flat_strs ns, ?_⟩
    show Ky (.bl (inV (.str z) (ns.map V.str))) H2
    rw [inV_str]
    exact k _ (Same.refl _)
  intro H2 s2 hD2'
  have hD2' : H2 D2 = some (.lst ([decide (a ∈ ns), decide (b ∈ ns)].map V.bl)) := hD2'
  refine ⟨D2, _, rfl, SqL.of hD2', _, rfl, ?_⟩
  by_cases ha : a ∈ ns
  · by_cases hb : b ∈ ns
    · rw [decide_eq_true ha, decide_eq_true hb]
      have hW2 := s2 _ _ hW1
      have hD1' := s2 _ _ hD1
      refine ⟨_, rfl, W, rfl, ⟨_, SqL.of hW2⟩, fun D3 hD3 => ?_⟩
      refine lc_words (ws := [a, b]) (f := fun z => V.int (ns.idxOf z : Nat)) hD3 hW2 (by show 2 ≤ sizeLine; decide) ?_ ?_
      · intro z H3 Ky Kn hz s3 k
        have hzn : z ∈ ns := by
          simp only [List.mem_cons, List.not_mem_nil, or_false] at hz
          rcases hz with rfl | rfl
          · exact ha
          · exact hb
        obtain ⟨i1, i2, i3⟩ := idx_str hzn
        exact ⟨rfl, _, rfl, .inl ⟨rfl, _, SqL.of (s3 _ _ hD1')⟩, _, rfl, D, _, _, _, _, rfl, rfl, SqL.of (s3 _ _ hD1'), rfl, flat_strs ns, i1, i2, i3, k _ (Same.refl _)⟩
      intro H3 s3 hD3'
      have hD3' : H3 D3 = some (.lst [V.int (ns.idxOf a : Nat), V.int (ns.idxOf b : Nat)]) := hD3'
      refine ⟨D3, _, rfl, SqL.of hD3', rfl, _, _, rfl, _, _, rfl, rfl, ?_⟩
      refine ⟨_, rfl, _, rfl, _, _, rfl, rfl, _, rfl, ?_⟩
      by_cases hle : ns.idxOf a ≤ ns.idxOf b
      · rw [decide_eq_true (show ((ns.idxOf a : Nat) : Int) ≤ (ns.idxOf b : Nat) by omega)]
        refine ⟨_, rfl, _, rfl, (by show 2 ≤ sizeLine; decide), fun t ht => ?_⟩
        refine qs (ns.idxOf a, ns.idxOf b) ?_ _ t (s1.trans (s2.trans (s3.trans (same_new ht)))) upd_same
        unfold pairOf
        rw [if_pos ⟨ha, hb⟩, if_pos hle]
      · rw [decide_eq_false (show ¬ ((ns.idxOf a : Nat) : Int) ≤ (ns.idxOf b : Nat) by omega)]
        refine qn ?_ _ (s1.trans (s2.trans s3))
        unfold pairOf
        rw [if_pos ⟨ha, hb⟩, if_neg hle]
    · rw [decide_eq_false hb]
      have e : [decide (a ∈ ns), false].all id = false := by simp
      rw [e]
      refine qn ?_ _ (s1.trans s2)
      unfold pairOf
      rw [if_neg fun z => hb z.2]
  · rw [decide_eq_false ha]
    refine qn ?_ _ (s1.trans s2)
    unfold pairOf
    rw [if_neg fun z => ha z.1]
end
end SK

set_option maxHeartbeats 4000000
namespace SL
open PySem PySem.Spec PyProof.Rows L2
def stOk (n : Nat) (st : RSt) : Prop := st.rows.length ≤ n ∧ st.beside.length ≤ n ∧ st.far.length ≤ n
def names (st : RSt) : List Str := st.rows.map (·.name)
def takeZooms (st : RSt) (ws : List Str) : Option RSt := match ws with
  | [_, a] => (wholeIn a).bind fun n => if 1 ≤ n ∧ n ≤ 5 then some { st with last := n - 1 } else none
  | _ => none
def takeClass (st : RSt) (ws : List Str) : Option RSt := (classRow ws st.last).bind fun r => if st.rows.length = 4 ∨ r.name ∈ names st then none else some { st with rows := st.rows ++ [r] }
def pairLe (p q : Nat × Nat) : Bool := if p.1 = q.1 then decide (p.2 ≤ q.2) else decide (p.1 ≤ q.1)
def takeBeside (st : RSt) (ws : List Str) : Option RSt := match ws with
  | [_, a, b] => (pairOf (names st) a b).bind fun p => if (st.beside.getLast?.any fun q => pairLe p q) then none else some { st with beside := st.beside ++ [p] }
  | _ => none
def takeFar (st : RSt) (ws : List Str) : Option RSt := match ws with
  | [_, a, b, d] => (pairOf (names st) a b).bind fun p => if (st.far.getLast?.any fun q => pairLe p q.1) then none else
      (wholeIn d).bind fun n => if 1 ≤ n ∧ n ≤ 9999 then some { st with far := st.far ++ [(p, n)] } else none
  | _ => none
theorem lex2 (p q : Nat × Nat) : Ob.lexAt (fun j => decide ([(p.1 : Int), p.2].getD j 0 = [(q.1 : Int), q.2].getD j 0)) (fun j => decide ([(p.1 : Int), p.2].getD j 0 ≤ [(q.1 : Int), q.2].getD j 0)) (decide ([(p.1 : Int), (p.2 : Int)].length ≤ [(q.1 : Int), (q.2 : Int)].length)) 0 (min [(p.1 : Int), (p.2 : Int)].length [(q.1 : Int), (q.2 : Int)].length) = pairLe p q := by
  show (if decide ((p.1 : Int) = q.1) = true then (if decide ((p.2 : Int) = q.2) = true then true else decide ((p.2 : Int) ≤ q.2)) else decide ((p.1 : Int) ≤ q.1)) = _
  unfold pairLe
  by_cases h1 : p.1 = q.1
  · rw [if_pos (decide_eq_true (by omega)), if_pos h1]
    by_cases h2 : p.2 = q.2
    · rw [if_pos (decide_eq_true (by omega)), decide_eq_true (by omega)]
    · rw [if_neg (by rw [decide_eq_true_eq]; omega)]
      exact decide_eq_decide.mpr (by omega)
  · rw [if_neg (by rw [decide_eq_true_eq]; omega), if_neg h1]
    exact decide_eq_decide.mpr (by omega)
theorem RvL.snocI {H : Hp} {d : PyData} : ∀ {ds : List PyData} {vs : List V}, RvL H vs (ds ++ [d]) → ∃ us v, vs = us ++ [v] ∧ RvL H us ds ∧ Rv H v d
  | [], vs, h => by
    cases h with
    | cons h1 h2 =>
      cases h2
      exact ⟨[], _, rfl, .nil, h1⟩
  | e :: ds, vs, h => by
    cases h with
    | cons h1 h2 =>
      obtain ⟨us, v, rfl, h3, h4⟩ := RvL.snocI h2
      exact ⟨_ :: us, v, rfl, .cons h1 h3, h4⟩
theorem RvL.last {H : Hp} {vs : List V} {ds : List PyData} {d : PyData} (h : RvL H vs ds) (e : ds.getLast? = some d) : ∃ v, atI vs (-1) = some v ∧ Rv H v d := by
  obtain ⟨ys, rfl⟩ := List.getLast?_eq_some_iff.mp e
  obtain ⟨us, v, rfl, _, h4⟩ := h.snocI
  exact ⟨v, atI_last us v, h4⟩
end SL
namespace SK
open PySem PySem.Spec PyProof.Rows L2 SL
section
variable {w : World} {K : PySem.W.Frag} {mg : Str → Option Value} {base : Heap}
def spTk (K : PySem.W.Frag) (f : RSt → List Str → Option RSt) : Sp := sp2 fun self wv H Q _ => ∃ r dx a1 a2 a3 st W ws, self = .ref r ∧ wv = .ref W ∧ RAt (cRd K) (cRow K) H r dx a1 a2 a3 st ∧ H W = some (.lst (ws.map V.str)) ∧ 
  ws.length ≤ 1000 ∧ (∀ z ∈ ws, z.length ≤ 640) ∧ stOk 1000 st ∧ (f st ws = none → ∀ H', Rk r a1 a2 a3 H H' → Q (.bl false) H') ∧ (∀ st', f st ws = some st' → ∀ H', Rk r a1 a2 a3 H H' → RAt (cRd K) (cRow K) H' r dx a1 a2 a3 st' → Q (.bl true) H')
abbrev n_Reader_take_zooms : List Str := ["self", "words", "number"]
theorem sc_Reader_take_zooms : FnScope n_Reader_take_zooms ["self", "words"] (defScope d_Reader_take_zooms) := ⟨rfl, rfl, rfl, by decide +kernel, rfl, by decide +kernel, by decide +kernel⟩
theorem ok_Reader_take_zooms (T : Top w K mg) : Has prg w K mg base CX0 3 (He.ma K (He.ga K "Reader") "take_zooms") ["self", "words"] (spTk K takeZooms) := by
  obtain ⟨fd, F⟩ := T.F_Reader_take_zooms
  obtain ⟨fd_whole_in, G_whole_in, b_whole_in, k_whole_in⟩ := ok_whole_in (base := base) T
  obtain ⟨fd_is_between, G_is_between, b_is_between, k_is_between⟩ := ok_is_between (base := base) T
  refine ⟨fd, F.ok (k := 2) sc_Reader_take_zooms (fun _ _ _ _ h => sp2_len h) (fun cdv A outer s H vs Q E hr h => ?_), F.bindsN (fun _ _ _ _ _ _ us hl => match us, hl with | [_, _], _ => rfl), F.kp⟩
  obtain ⟨v0, v1, rfl, h⟩ := h
  refine ⟨_, PSs.nox (pss_cons (ps_set (i := 2) sc_Reader_take_zooms.nd rfl (Or.inl rfl) (pe_ifExp (pt_cmpR op_eq (pe_callB call_len (by rfl) T.b_len (by decide +kernel) (pa_cons (pv 1) pa_nil)) (pe_cI (by rfl) T.c_ZOOMS_WORDS) (nomark _)) (pe_call G_whole_in (hr.mono (by decide)) (by rfl) T.g_whole_in k_whole_in b_whole_in .nil pass0 (pa_cons (pe_ix ix_list (pv 1) pe_int (fun _ _ => rfl)) pa_nil)) pe_non))
    (pss_cons (ps_if (pt_not (pt_val (pe_call G_is_between (hr.mono (by decide)) (by rfl) T.g_is_between k_is_between b_is_between .nil pass0 (pa_cons (pv 2) (pa_cons pe_int (pa_cons (pe_cI (by rfl) T.c_MOST_ZOOMS) pa_nil)))))) (pss_one (ps_ret pe_bl)) pss_nil)
    (pss_cons (ps_fld (pv 0) (pe_op op_sub (pv 2) pe_int) rfl)
    (pss_one (ps_ret pe_bl))))), ?_⟩
  obtain ⟨r, dx, a1, a2, a3, st, W, ws, rfl, rfl, R, hW, hl, hz, hst, qn, qs⟩ := h
  refine ⟨_, rfl, _, ws.length, rfl, .inl ⟨_, SqL.of hW, by rw [List.length_map]⟩, rfl, _, rfl, ?_⟩
  have nope : ∀ H', Same H H' → takeZooms st ws = none → Q (.bl false) H' := fun H' s e => qn e H' (Rk.of s)
  by_cases h2 : ws.length = 2
  · obtain ⟨w0, a, rfl⟩ : ∃ w0 a, ws = [w0, a] := by
      match ws, h2 with
      | [x, y], _ => exact ⟨x, y, rfl⟩
    refine ⟨_, rfl, W, _, _, V.str a, rfl, rfl, SqL.of hW, rfl, ?_⟩
    refine ⟨_, rfl, a, rfl, hz a (by simp), fun H1 s1 => ?_⟩
    refine ⟨_, rfl, _, _, _, rfl, 1, 5, rfl, rfl, optV_kn _, _, rfl, ?_⟩
    cases ha : wholeIn a with
    | none =>
      refine nope _ s1 ?_
      show (wholeIn a).bind _ = none
      rw [ha]
      rfl
    | some n =>
      cases hb : betw (optV (some n)) 1 5 with
      | false =>
        refine nope _ s1 ?_
        show (wholeIn a).bind _ = none
        rw [ha]
        refine if_neg fun z => ?_
        have := betw_int.mpr z
        rw [show betw (.int n) 1 5 = betw (optV (some n)) 1 5 from rfl, hb] at this
        cases this
      | true =>
        have hb' := betw_int.mp (show betw (.int n) 1 5 = true from hb)
        have R1 := R.same s1
        refine ⟨_, rfl, _, _, rfl, rfl, _, rfl, r, _, dx, _, rfl, R1.obj, T.cl_Reader, T.na_Reader_own_last, by show 5 < 1000; decide, ?_⟩
        refine qs _ (show (wholeIn a).bind _ = _ by rw [ha]; exact if_pos hb') _ (fun b o n1 _ _ _ hb => ?_) R1.setObj
        rw [upd_ne n1]
        exact s1 _ _ hb
  · have e : V.int ((ws.length : Nat) : Int) ≠ V.int 2 := fun z => h2 (by have := V.int.inj z; omega)
    rw [decide_eq_false e]
    refine ⟨_, rfl, _, _, _, rfl, 1, 5, rfl, rfl, ⟨_, .non⟩, _, rfl, ?_⟩
    refine nope _ (Same.refl _) ?_
    unfold takeZooms
    split
    · exact absurd rfl h2
    · rfl
abbrev n_Reader_take_class : List Str := ["self", "words", "row", "one"]
theorem sc_Reader_take_class : FnScope n_Reader_take_class ["self", "words"] (defScope d_Reader_take_class) := ⟨rfl, rfl, rfl, by decide +kernel, rfl, by decide +kernel, by decide +kernel⟩
theorem ok_Reader_take_class (T : Top w K mg) : Has prg w K mg base CX0 5 (He.ma K (He.ga K "Reader") "take_class") ["self", "words"] (spTk K takeClass) := by
  obtain ⟨fd, F⟩ := T.F_Reader_take_class
  obtain ⟨fd_class_row, G_class_row, b_class_row, k_class_row⟩ := ok_class_row (base := base) T
  refine ⟨fd, F.ok (k := 4) sc_Reader_take_class (fun _ _ _ _ h => sp2_len h) (fun cdv A outer s H vs Q E hr h => ?_), F.bindsN (fun _ _ _ _ _ _ us hl => match us, hl with | [_, _], _ => rfl), F.kp⟩
  obtain ⟨v0, v1, rfl, h⟩ := h
  refine ⟨_, PSs.nox (pss_cons (ps_set (i := 2) sc_Reader_take_class.nd rfl (Or.inl rfl) (pe_call G_class_row (hr.mono (by decide)) (by rfl) T.g_class_row k_class_row b_class_row .nil pass0 (pa_cons (pv 1) (pa_cons (pe_fld (pv 0) rfl) pa_nil))))
    (pss_cons (ps_if (PW.pt (pw_or (pt_cmpR op_isN (pv 2) pe_non (nomark _)) (pw_or (pt_cmpR op_eq (pe_callB call_len (by rfl) T.b_len (by decide +kernel) (pa_cons (pe_fld (pv 0) rfl) pa_nil)) (pe_cI (by rfl) T.c_MOST_CLASSES) (nomark _)) (pw_or1 (pt_cmpR op_in_seq (pe_fld (pv 2) rfl) (pe_lc (own := [("one", 3)]) (g := gName 3) (by rfl) sc_Reader_take_class.nd (pi_list (pe_fld (pv 0) rfl)) (blkOk_by (N := n_Reader_take_class) (sc := defScope d_Reader_take_class) (own := [("one", 3)]) (by decide +kernel)) (fun _ _ _ _ _ => (pg_name (i := 3) sc_Reader_take_class.nd rfl (Or.inl rfl) (.inr rfl))) (fun _ _ _ _ _ => pts_nil) (fun _ _ _ _ _ => (pe_fldK (K := K) rfl (pv 3) rfl))) (by rfl)))))) (pss_one (ps_ret pe_bl)) pss_nil)
    (pss_cons (ps_expr (pe_bm PySem.F.plainAttrs_list PySem.F.slot_list_append PySem.F.type_list_append mt_append (pe_fld (pv 0) rfl) (pa_cons (pv 2) pa_nil)))
    (pss_one (ps_ret pe_bl))))), ?_⟩
  obtain ⟨r, dx, a1, a2, a3, st, W, ws, rfl, rfl, R, hW, hl, hz, hst, qn, qs⟩ := h
  refine ⟨_, rfl, _, rfl, r, _, dx, _, _, rfl, R.obj, T.cl_Reader, T.na_Reader_own_last, rfl, ?_⟩
  refine ⟨_, _, rfl, W, ws, st.last, rfl, rfl, hW, hl, hz, fun hcr H1 s1 => ?_, fun row hcr H1 v s1 hra => ?_⟩
  · refine ⟨_, rfl, rfl, _, rfl, ?_⟩
    refine qn ?_ _ (Rk.of s1)
    unfold takeClass
    rw [hcr]
    rfl
  · obtain ⟨c, dc, t1, t2, rfl, h1, h2, h3⟩ := id hra
    have R1 := R.same s1
    obtain ⟨vs, hv, hR⟩ := R1.rows
    refine ⟨_, rfl, rfl, _, rfl, ?_⟩
    refine ⟨_, rfl, r, _, dx, _, _, rfl, R1.obj, T.cl_Reader, T.na_Reader_own_rows, rfl, _, vs.length, rfl, .inl ⟨_, SqL.of hv, rfl⟩, rfl, _, rfl, ?_⟩
    have hlen := hR.len
    by_cases h4 : st.rows.length = 4
    · rw [decide_eq_true (show V.int ((vs.length : Nat) : Int) = V.int 4 by rw [hlen, h4]; rfl)]
      refine qn ?_ _ (Rk.of s1)
      unfold takeClass
      rw [hcr]
      exact if_pos (.inl h4)
    · rw [decide_eq_false (show V.int ((vs.length : Nat) : Int) ≠ V.int 4 from fun z => h4 (by have := V.int.inj z; omega))]
      refine ⟨_, rfl, c, _, dc, _, _, rfl, h1, T.cl_ClassRow, T.na_ClassRow_own_name, rfl, ?_⟩
      refine ⟨_, rfl, r, _, dx, _, _, rfl, R1.obj, T.cl_Reader, T.na_Reader_own_rows, rfl, a1, rfl, ⟨_, SqL.of hv⟩, fun D hD => ?_⟩
      refine lc_rows hD hv hR (Nat.le_trans hst.1 (by decide)) ?_ ?_
      · rintro v row H2 Ky Kn s2 ⟨c, dc, t1, t2, rfl, h1, h2, h3⟩ k
        exact ⟨rfl, _, rfl, c, _, dc, _, _, rfl, h1, T.cl_ClassRow, T.na_ClassRow_own_name, rfl, k⟩
      intro H2 s2 hD2
      refine ⟨D, _, rfl, .inl (SqL.of hD2), rfl, flat_strs _, _, rfl, ?_⟩
      show if (inV (.str row.name) ((st.rows.map (·.name)).map V.str)) = true then _ else _
      rw [inV_str]
      by_cases hm : row.name ∈ st.rows.map (·.name)
      · rw [decide_eq_true hm]
        refine qn ?_ _ (Rk.of (s1.trans s2))
        unfold takeClass
        rw [hcr]
        exact if_pos (.inr hm)
      · rw [decide_eq_false hm]
        have R2 := R1.same s2
        have hv2 := s2 _ _ hv
        refine ⟨_, rfl, r, _, dx, _, _, rfl, R2.obj, T.cl_Reader, T.na_Reader_own_rows, rfl, .inl ⟨rfl, _, SqL.of hv2⟩, _, rfl, a1, _, _, rfl, rfl, hv2, ?_, ?_⟩
        · rw [hlen]
          exact Nat.lt_of_le_of_lt hst.1 (by decide)
        · refine qs _ ?_ _ (fun b o _ n1 _ _ hb => ?_) (R2.addRow hv2 (hra.same s2))
          · unfold takeClass
            rw [hcr]
            exact if_neg fun z => z.elim h4 hm
          · rw [upd_ne n1]
            exact s2 _ _ (s1 _ _ hb)
abbrev n_Reader_take_beside : List Str := ["self", "words", "pair"]
theorem sc_Reader_take_beside : FnScope n_Reader_take_beside ["self", "words"] (defScope d_Reader_take_beside) := ⟨rfl, rfl, rfl, by decide +kernel, rfl, by decide +kernel, by decide +kernel⟩
theorem ok_Reader_take_beside (T : Top w K mg) : Has prg w K mg base CX0 2 (He.ma K (He.ga K "Reader") "take_beside") ["self", "words"] (spTk K takeBeside) := by
  obtain ⟨fd, F⟩ := T.F_Reader_take_beside
  obtain ⟨fd_Reader_pair_of, G_Reader_pair_of, b_Reader_pair_of, k_Reader_pair_of⟩ := ok_Reader_pair_of (base := base) T
  refine ⟨fd, F.ok (k := 1) sc_Reader_take_beside (fun _ _ _ _ h => sp2_len h) (fun cdv A outer s H vs Q E hr h => ?_), F.bindsN (fun _ _ _ _ _ _ us hl => match us, hl with | [_, _], _ => rfl), F.kp⟩
  obtain ⟨v0, v1, rfl, h⟩ := h
  refine ⟨_, PSs.nox (pss_cons (ps_set (i := 2) sc_Reader_take_beside.nd rfl (Or.inl rfl) (pe_ifExp (pt_cmpR op_eq (pe_callB call_len (by rfl) T.b_len (by decide +kernel) (pa_cons (pv 1) pa_nil)) (pe_cI (by rfl) T.c_BESIDE_WORDS) (nomark _)) (pe_meth (pv 0) T.cl_Reader T.m_Reader_pair_of G_Reader_pair_of (hr.mono (by decide)) b_Reader_pair_of .nil pass0 (pa_cons (pe_slice sl_list (pv 1) (po_some pe_int) po_none) pa_nil)) pe_non))
    (pss_cons (ps_if (PW.pt (pw_or (pt_cmpR op_isN (pv 2) pe_non (nomark _)) (pw_or1 (PW.pt (pw_and (pt_cmpR (op_neNil hr.units) (pe_fld (pv 0) rfl) (pe_lst pa_nil) (nomark _)) (pw_and1 (pt_cmpR (op_leT hr.units0) (pv 2) (pe_ix ix_list (pe_fld (pv 0) rfl) (pe_un un_neg pe_int) (fun _ _ => rfl)) (nomark _)))))))) (pss_one (ps_ret pe_bl)) pss_nil)
    (pss_cons (ps_expr (pe_bm PySem.F.plainAttrs_list PySem.F.slot_list_append PySem.F.type_list_append mt_append (pe_fld (pv 0) rfl) (pa_cons (pv 2) pa_nil)))
    (pss_one (ps_ret pe_bl))))), ?_⟩
  obtain ⟨r, dx, a1, a2, a3, st, W, ws, rfl, rfl, R, hW, hl, hz, hst, qn, qs⟩ := h
  refine ⟨_, rfl, _, ws.length, rfl, .inl ⟨_, SqL.of hW, by rw [List.length_map]⟩, rfl, _, rfl, ?_⟩
  by_cases h3 : ws.length = 3
  · obtain ⟨w0, a, b, rfl⟩ : ∃ w0 a b, ws = [w0, a, b] := by
      match ws, h3 with
      | [x, y, z], _ => exact ⟨x, y, z, rfl⟩
    refine ⟨_, rfl, r, dx, _, rfl, R.obj, rfl, _, rfl, 1, rfl, W, _, rfl, SqL.of hW, fun p1 hp1 => ?_⟩
    have s1 : Same H (upd H p1 (.lst [.str a, .str b])) := same_new hp1
    refine ⟨_, _, rfl, r, dx, a1, a2, a3, st, p1, a, b, rfl, rfl, R.same s1, upd_same, hst.1, fun hp H2 s2 => ?_, fun p hp H2 t s2 ht => ?_⟩
    · refine ⟨_, rfl, rfl, _, rfl, ?_⟩
      refine qn ?_ _ (Rk.of (s1.trans s2))
      show (pairOf (names st) a b).bind _ = none
      rw [show pairOf (names st) a b = none from hp]
      rfl
    · have R2 := (R.same s1).same s2
      obtain ⟨vs, hv, hR⟩ := R2.beside
      refine ⟨_, rfl, rfl, _, rfl, ?_⟩
      refine ⟨_, rfl, r, _, dx, _, _, rfl, R2.obj, T.cl_Reader, T.na_Reader_own_beside, rfl, (by show 0 ≤ sizeLine; decide), fun e he => ?_⟩
      have s3 : Same H2 (upd H2 e (.lst [])) := same_new he
      have R3 := R2.same s3
      have hv3 := s3 _ _ hv
      refine ⟨a2, e, vs, rfl, rfl, SqL.of hv3, upd_same, _, rfl, ?_⟩
      have hB : takeBeside st [w0, a, b] = (pairOf (names st) a b).bind fun p => if (st.beside.getLast?.any fun q => pairLe p q) then none else some { st with beside := st.beside ++ [p] } := rfl
      rw [show pairOf (names st) a b = some p from hp] at hB
      have hB : takeBeside st [w0, a, b] = if (st.beside.getLast?.any fun q => pairLe p q) then none else some { st with beside := st.beside ++ [p] } := hB
      have hvl : vs.length = st.beside.length := by rw [hR.length, List.length_map]
      have hadd : ∀ H4, Same (upd H2 e (.lst [])) H4 → (st.beside.getLast?.any fun q => pairLe p q) = false → Q (.bl true) (upd H4 a2 (.lst (vs ++ [.ref t]))) := fun H4 s4 hno => by
        have hv4 := s4 _ _ hv3
        refine qs _ (by rw [hB, hno]; rfl) _ (fun b o _ _ n2 _ hb => ?_) ((R3.same s4).addBeside hv4 (.tup (s4 _ _ (s3 _ _ ht)) (.cons (.int _) (.cons (.int _) .nil))))
        rw [upd_ne n2]
        exact s4 _ _ (s3 _ _ (s2 _ _ (s1 _ _ hb)))
      cases hlast : st.beside.getLast? with
      | none =>
        have hnil : st.beside = [] := List.getLast?_eq_none_iff.mp hlast
        have hvn : vs = [] := List.eq_nil_of_length_eq_zero (by rw [hvl, hnil]; rfl)
        subst hvn
        refine ⟨_, rfl, r, _, dx, _, _, rfl, R3.obj, T.cl_Reader, T.na_Reader_own_beside, rfl, .inl ⟨rfl, _, SqL.of hv3⟩, _, rfl, a2, _, _, rfl, rfl, hv3, (by show 0 < sizeLine; decide), ?_⟩
        exact hadd _ (Same.refl _) (by rw [hlast]; rfl)
      | some q =>
        have hne : vs ≠ [] := fun z => by
          rw [z] at hvl
          rw [List.eq_nil_of_length_eq_zero hvl.symm] at hlast
          cases hlast
        obtain ⟨v, hat, hrv⟩ := hR.last (d := pairD q) (by rw [List.getLast?_map, hlast]; rfl)
        have hemp : vs.isEmpty = false := by
          cases vs with
          | nil => exact absurd rfl hne
          | cons _ _ => rfl
        rw [hemp]
        cases hrv with
        | tup hvt hvl2 =>
          rename_i tq xs
          have e1 : xs = [q.1, q.2].map (fun n : Nat => V.int n) := by
            have := RvL.toInts (ns := [(q.1 : Int), q.2]) hvl2
            rw [this]
            rfl
          refine ⟨_, rfl, _, rfl, r, _, dx, _, _, rfl, R3.obj, T.cl_Reader, T.na_Reader_own_beside, rfl, _, rfl, a2, _, _, _, rfl, rfl, SqL.of hv3, hat, ?_⟩
          refine ⟨t, tq, [p.1, p.2], [q.1, q.2], rfl, rfl, SqT.of (s3 _ _ ht), SqT.of (by rw [s3 _ _ hvt, e1]; rfl), _, rfl, ?_⟩
          rw [lex2]
          cases hle : pairLe p q with
          | true =>
            refine qn ?_ _ (Rk.of (s1.trans (s2.trans s3)))
            rw [hB, hlast]
            exact if_pos hle
          | false =>
            refine ⟨_, rfl, r, _, dx, _, _, rfl, R3.obj, T.cl_Reader, T.na_Reader_own_beside, rfl, .inl ⟨rfl, _, SqL.of hv3⟩, _, rfl, a2, _, _, rfl, rfl, hv3, ?_, ?_⟩
            · rw [hvl]
              exact Nat.lt_of_le_of_lt hst.2.1 (by decide)
            · exact hadd _ (Same.refl _) (by rw [hlast]; exact hle)
  · have e : V.int ((ws.length : Nat) : Int) ≠ V.int 3 := fun z => h3 (by have := V.int.inj z; omega)
    rw [decide_eq_false e]
    refine ⟨_, rfl, rfl, _, rfl, ?_⟩
    refine qn ?_ _ (Rk.of (Same.refl _))
    unfold takeBeside
    split
    · exact absurd rfl h3
    · rfl
end
end SK

set_option maxHeartbeats 4000000
namespace SK
open PySem PySem.Spec PyProof.Rows L2 SL
section
variable {w : World} {K : PySem.W.Frag} {mg : Str → Option Value} {base : Heap}
abbrev n_Reader_take_far : List Str := ["self", "words", "pair"]
theorem sc_Reader_take_far : FnScope n_Reader_take_far ["self", "words"] (defScope d_Reader_take_far) := ⟨rfl, rfl, rfl, by decide +kernel, rfl, by decide +kernel, by decide +kernel⟩
theorem ok_Reader_take_far (T : Top w K mg) : Has prg w K mg base CX0 3 (He.ma K (He.ga K "Reader") "take_far") ["self", "words"] (spTk K takeFar) := by
  obtain ⟨fd, F⟩ := T.F_Reader_take_far
  obtain ⟨fd_Reader_pair_of, G_Reader_pair_of, b_Reader_pair_of, k_Reader_pair_of⟩ := ok_Reader_pair_of (base := base) T
  obtain ⟨fd_whole_in, G_whole_in, b_whole_in, k_whole_in⟩ := ok_whole_in (base := base) T
  obtain ⟨fd_is_between, G_is_between, b_is_between, k_is_between⟩ := ok_is_between (base := base) T
  refine ⟨fd, F.ok (k := 2) sc_Reader_take_far (fun _ _ _ _ h => sp2_len h) (fun cdv A outer s H vs Q E hr h => ?_), F.bindsN (fun _ _ _ _ _ _ us hl => match us, hl with | [_, _], _ => rfl), F.kp⟩
  obtain ⟨v0, v1, rfl, h⟩ := h
  refine ⟨_, PSs.nox (pss_cons (ps_set (i := 2) sc_Reader_take_far.nd rfl (Or.inl rfl) (pe_ifExp (pt_cmpR op_eq (pe_callB call_len (by rfl) T.b_len (by decide +kernel) (pa_cons (pv 1) pa_nil)) (pe_cI (by rfl) T.c_FAR_WORDS) (nomark _)) (pe_meth (pv 0) T.cl_Reader T.m_Reader_pair_of G_Reader_pair_of (hr.mono (by decide)) b_Reader_pair_of .nil pass0 (pa_cons (pe_slice sl_list (pv 1) (po_some pe_int) (po_some (pe_un un_neg pe_int))) pa_nil)) pe_non))
    (pss_cons (ps_if (PW.pt (pw_or (pt_cmpR op_isN (pv 2) pe_non (nomark _)) (pw_or1 (PW.pt (pw_and (pt_cmpR (op_neNil hr.units) (pe_fld (pv 0) rfl) (pe_lst pa_nil) (nomark _)) (pw_and1 (pt_cmpR (op_leT hr.units0) (pv 2) (pe_ix ix_tup (pe_ix ix_list (pe_fld (pv 0) rfl) (pe_un un_neg pe_int) (fun _ _ => rfl)) pe_int (fun _ _ => rfl)) (nomark _)))))))) (pss_one (ps_ret pe_bl)) pss_nil)
    (pss_cons (ps_expr (pe_bm PySem.F.plainAttrs_list PySem.F.slot_list_append PySem.F.type_list_append mt_append (pe_fld (pv 0) rfl) (pa_cons (pe_tup (pa_cons (pv 2) (pa_cons (pe_call G_whole_in (hr.mono (by decide)) (by rfl) T.g_whole_in k_whole_in b_whole_in .nil pass0 (pa_cons (pe_ix ix_list (pv 1) (pe_un un_neg pe_int) (fun _ _ => rfl)) pa_nil)) pa_nil))) pa_nil)))
    (pss_one (ps_ret (pe_call G_is_between (hr.mono (by decide)) (by rfl) T.g_is_between k_is_between b_is_between .nil pass0 (pa_cons (pe_ix ix_tup (pe_ix ix_list (pe_fld (pv 0) rfl) (pe_un un_neg pe_int) (fun _ _ => rfl)) pe_int (fun _ _ => rfl)) (pa_cons pe_int (pa_cons (pe_cI (by rfl) T.c_MOST_FAR) pa_nil))))))))), ?_⟩
  obtain ⟨r, dx, a1, a2, a3, st, W, ws, rfl, rfl, R, hW, hl, hz, hst, qn, qs⟩ := h
  refine ⟨_, rfl, _, ws.length, rfl, .inl ⟨_, SqL.of hW, by rw [List.length_map]⟩, rfl, _, rfl, ?_⟩
  by_cases h3 : ws.length = 4
  · obtain ⟨w0, a, b, d, rfl⟩ : ∃ w0 a b d, ws = [w0, a, b, d] := by
      match ws, h3 with
      | [x, y, z, u], _ => exact ⟨x, y, z, u, rfl⟩
    refine ⟨_, rfl, r, dx, _, rfl, R.obj, rfl, _, rfl, 1, rfl, _, rfl, _, rfl, W, _, rfl, SqL.of hW, fun p1 hp1 => ?_⟩
    have s1 : Same H (upd H p1 (.lst [.str a, .str b])) := same_new hp1
    refine ⟨_, _, rfl, r, dx, a1, a2, a3, st, p1, a, b, rfl, rfl, R.same s1, upd_same, hst.1, fun hp H2 s2 => ?_, fun p hp H2 t s2 ht => ?_⟩
    · refine ⟨_, rfl, rfl, _, rfl, ?_⟩
      refine qn ?_ _ (Rk.of (s1.trans s2))
      show (pairOf (names st) a b).bind _ = none
      rw [show pairOf (names st) a b = none from hp]
      rfl
    · have R2 := (R.same s1).same s2
      obtain ⟨vs, hv, hR⟩ := R2.far
      refine ⟨_, rfl, rfl, _, rfl, ?_⟩
      refine ⟨_, rfl, r, _, dx, _, _, rfl, R2.obj, T.cl_Reader, T.na_Reader_own_far, rfl, (by show 0 ≤ sizeLine; decide), fun e he => ?_⟩
      have s3 : Same H2 (upd H2 e (.lst [])) := same_new he
      have s13 : Same H (upd H2 e (.lst [])) := s1.trans (s2.trans s3)
      have R3 := R2.same s3
      have hv3 := s3 _ _ hv
      refine ⟨a3, e, vs, rfl, rfl, SqL.of hv3, upd_same, _, rfl, ?_⟩
      have hB : takeFar st [w0, a, b, d] = (pairOf (names st) a b).bind fun p => if (st.far.getLast?.any fun q => pairLe p q.1) then none else
        (wholeIn d).bind fun n => if 1 ≤ n ∧ n ≤ 9999 then some { st with far := st.far ++ [(p, n)] } else none := rfl
      rw [show pairOf (names st) a b = some p from hp] at hB
      have hB : takeFar st [w0, a, b, d] = if (st.far.getLast?.any fun q => pairLe p q.1) then none else
        (wholeIn d).bind fun n => if 1 ≤ n ∧ n ≤ 9999 then some { st with far := st.far ++ [(p, n)] } else none := hB
      have hvl : vs.length = st.far.length := by rw [hR.length, List.length_map]
      have key : (st.far.getLast?.any fun q => pairLe p q.1) = false → ∀ H4 tt, Same (upd H2 e (.lst [])) H4 → H4 tt = some (.tup [.ref t, optV (wholeIn d)]) → Q (.bl (betw (optV (wholeIn d)) 1 9999)) (upd H4 a3 (.lst (vs ++ [.ref tt]))) := fun hno H4 tt s4 htt => by
        rw [hno] at hB
        have hB : takeFar st [w0, a, b, d] = (wholeIn d).bind fun n => if 1 ≤ n ∧ n ≤ 9999 then some { st with far := st.far ++ [(p, n)] } else none := hB
        have rk : Rk r a1 a2 a3 H (upd H4 a3 (.lst (vs ++ [.ref tt]))) := fun b o _ _ _ n3 hb => by
          rw [upd_ne n3]
          exact s4 _ _ (s13 _ _ hb)
        cases hd : wholeIn d with
        | none =>
          rw [hd] at hB
          exact qn hB _ rk
        | some n =>
          rw [hd] at hB htt
          have hB : takeFar st [w0, a, b, d] = if 1 ≤ n ∧ n ≤ 9999 then some { st with far := st.far ++ [(p, n)] } else none := hB
          cases hb : betw (.int n) 1 9999 with
          | false =>
            rw [show optV (some n) = .int n from rfl, hb]
            refine qn ?_ _ rk
            rw [hB, if_neg]
            intro z
            rw [betw_int.mpr z] at hb
            cases hb
          | true =>
            rw [show optV (some n) = .int n from rfl, hb]
            refine qs _ (by rw [hB, if_pos (betw_int.mp hb)]) _ rk ((R3.same s4).addFar (s4 _ _ hv3) (.tup htt (.cons (.tup (s4 _ _ (s3 _ _ ht)) (.cons (.int _) (.cons (.int _) .nil))) (.cons (.int _) .nil))))
      have hW3 := s13 _ _ hW
      have hlt : vs.length < sizeLine := by
        rw [hvl]
        exact Nat.lt_of_le_of_lt hst.2.2 (by decide)
      have hcase : (vs.isEmpty = true ∧ st.far.getLast? = none) ∨ ∃ q tq t2 tl, vs.isEmpty = false ∧ st.far.getLast? = some q ∧ atI vs (-1) = some (.ref tq) ∧ H2 tq = some (.tup [.ref t2, tl]) ∧ H2 t2 = some (.tup [.int q.1.1, .int q.1.2]) := by
        cases hlast : st.far.getLast? with
        | none =>
          have hnil : st.far = [] := List.getLast?_eq_none_iff.mp hlast
          have hvn : vs = [] := List.eq_nil_of_length_eq_zero (by rw [hvl, hnil]; rfl)
          exact .inl ⟨by rw [hvn]; rfl, rfl⟩
        | some q =>
          have hemp : vs.isEmpty = false := by
            cases vs with
            | nil =>
              rw [List.eq_nil_of_length_eq_zero hvl.symm] at hlast
              cases hlast
            | cons _ _ => rfl
          obtain ⟨v, hat, hrv⟩ := hR.last (d := farD q) (by rw [List.getLast?_map, hlast]; rfl)
          cases hrv with
          | tup hvt hvl2 =>
            cases hvl2 with
            | cons g1 g2 =>
              cases g2 with
              | cons g3 g4 =>
                cases g4
                cases g1 with
                | tup h5 h6 =>
                  have := RvL.toInts (ns := [(q.1.1 : Int), q.1.2]) h6
                  exact .inr ⟨q, _, _, _, hemp, rfl, hat, hvt, by rw [h5, this]; rfl⟩
      rcases hcase with ⟨hemp, hlast⟩ | ⟨q, tq, t2, tl, hemp, hlast, hat, htq, ht2⟩
      case' inl =>
        rw [hemp]
        have hno : (st.far.getLast?.any fun q => pairLe p q.1) = false := by rw [hlast]; rfl
      case' inr =>
        rw [hemp]
        refine ⟨_, rfl, _, rfl, r, _, dx, _, _, rfl, R3.obj, T.cl_Reader, T.na_Reader_own_far, rfl, _, rfl, a3, _, _, _, rfl, rfl, SqL.of hv3, hat, tq, _, _, _, rfl, rfl, SqT.of (s3 _ _ htq), rfl, ?_⟩
        refine ⟨t, t2, [p.1, p.2], [q.1.1, q.1.2], rfl, rfl, SqT.of (s3 _ _ ht), SqT.of (s3 _ _ ht2), _, rfl, ?_⟩
        rw [lex2 p q.1]
        by_cases hle : pairLe p q.1 = true
        · rw [hle]
          refine qn ?_ _ (Rk.of s13)
          rw [hB, hlast]
          exact if_pos hle
        rw [Bool.eq_false_iff.mpr hle]
        have hno : (st.far.getLast?.any fun q => pairLe p q.1) = false := by rw [hlast]; exact Bool.eq_false_iff.mpr hle
      all_goals
        refine ⟨_, rfl, r, _, dx, _, _, rfl, R3.obj, T.cl_Reader, T.na_Reader_own_far, rfl, .inl ⟨rfl, _, SqL.of hv3⟩, ?_⟩
        refine ⟨_, rfl, _, rfl, _, rfl, W, _, _, V.str d, rfl, rfl, SqL.of hW3, rfl, _, rfl, d, rfl, hz d (by simp), fun H4 s4 => ?_⟩
        refine ⟨(by show 2 ≤ sizeLine; decide), fun tt htt => ?_⟩
        have s5 : Same H4 (upd H4 tt (.tup [.ref t, optV (wholeIn d)])) := same_new htt
        have s45 := s4.trans s5
        have hv5 := s45 _ _ hv3
        have R5 := R3.same s45
        have n3 := R3.n3
        have hne : a3 ≠ tt := fun z => by
          have := s4 _ _ hv3
          rw [z, htt] at this
          cases this
        refine ⟨a3, _, _, rfl, rfl, hv5, hlt, ?_⟩
        have htt5 : upd H4 tt (.tup [.ref t, optV (wholeIn d)]) tt = some (.tup [.ref t, optV (wholeIn d)]) := upd_same
        have kk := key hno _ tt s45 htt5
        generalize upd H4 tt (.tup [.ref t, optV (wholeIn d)]) = H5 at kk htt5 hv5 R5 ⊢
        refine ⟨_, rfl, r, _, dx, _, _, rfl, by rw [upd_ne (Ne.symm n3)]; exact R5.obj, T.cl_Reader, T.na_Reader_own_far, rfl, _, rfl, a3, _, _, _, rfl, rfl, SqL.of upd_same, atI_last _ _, tt, _, _, _, rfl, rfl, SqT.of (by rw [upd_ne (Ne.symm hne)]; exact htt5), rfl, ?_⟩
        exact ⟨_, _, _, rfl, 1, 9999, rfl, rfl, optV_kn _, kk⟩
  · have e : V.int ((ws.length : Nat) : Int) ≠ V.int 4 := fun z => h3 (by have := V.int.inj z; omega)
    rw [decide_eq_false e]
    refine ⟨_, rfl, rfl, _, rfl, ?_⟩
    refine qn ?_ _ (Rk.of (Same.refl _))
    unfold takeFar
    split
    · exact absurd rfl h3
    · rfl
end
end SK

set_option maxHeartbeats 4000000
namespace SL
open PySem PySem.Spec PyProof.Rows L2 TL
theorem pre1 (s c : Nat) (r : List Nat) : pre [s] (c :: r) = (c == s) := by
  unfold pre
  show ([c] == [s]) = _
  simp
theorem spl_bounds (s : Nat) : ∀ (l acc : List Nat), (spl [s] 0 acc l).length ≤ l.length + 1 ∧ spl [s] 0 acc l ≠ [] ∧ ∀ p ∈ spl [s] 0 acc l, p.length ≤ acc.length + l.length
  | [], acc => by
    rw [spl_nil]
    refine ⟨by simp, by simp, fun p hp => ?_⟩
    simp only [List.mem_singleton] at hp
    rw [hp]
    simp
  | c :: r, acc => by
    by_cases h : c = s
    · have hp : pre [s] (c :: r) = true := by rw [pre1]; exact beq_iff_eq.mpr h
      rw [spl_hit hp]
      obtain ⟨i1, i2, i3⟩ := spl_bounds s r []
      have e : spl [s] ([s].length - 1) [] r = spl [s] 0 [] r := rfl
      rw [e]
      refine ⟨by rw [List.length_cons, List.length_cons]; omega, by simp, fun p hp => ?_⟩
      rcases List.mem_cons.mp hp with rfl | hp
      · omega
      · have := i3 p hp
        rw [List.length_cons]
        simp only [List.length_nil] at this
        omega
    · have hp : pre [s] (c :: r) = false := by rw [pre1]; exact beq_eq_false_iff_ne.mpr h
      rw [spl_miss hp]
      obtain ⟨i1, i2, i3⟩ := spl_bounds s r (acc ++ [c])
      refine ⟨by rw [List.length_cons]; omega, i2, fun p hp => ?_⟩
      have := i3 p hp
      rw [List.length_append, List.length_singleton] at this
      rw [List.length_cons]
      omega
theorem split_bounds {y : Str} {s : Nat} (ey : tl y = [s]) (hk : y.cps.all (· < 256) = true) (x : Str) : (Txt.split x y).length ≤ x.length + 1 ∧ Txt.split x y ≠ [] ∧ ∀ p ∈ Txt.split x y, p.length ≤ x.length := by
  have h := split_spl x y (by rw [ey]; simp) (kind_ok hk)
  rw [ey] at h
  obtain ⟨i1, i2, i3⟩ := spl_bounds s (tl x) []
  have hl := congrArg List.length h
  rw [List.length_map] at hl
  refine ⟨by rw [hl, len_tl]; exact i1, fun e => ?_, fun p hp => ?_⟩
  · rw [e] at h
    exact i2 h.symm
  · have := i3 (tl p) (by rw [← h]; exact List.mem_map.mpr ⟨p, hp, rfl⟩)
    rw [len_tl, len_tl x]
    simpa using this
def behind (s : Str) : List Str := if s = "" then ["zooms"] else if s = "zooms" then ["class"] else if s = "class" then ["class", "beside", "far"] else if s = "beside" then ["beside", "far"] else ["far"]
def sortOk (s : Str) : Prop := s = "" ∨ s = "zooms" ∨ s = "class" ∨ s = "beside" ∨ s = "far"
def takeWords (st : RSt) (ws : List Str) : Option RSt := match ws with
  | [] => none
  | w0 :: r => if w0 ∈ behind st.sort then (if w0 = "zooms" then takeZooms { st with sort := w0 } (w0 :: r) else if w0 = "class" then takeClass { st with sort := w0 } (w0 :: r) else
      if w0 = "beside" then takeBeside { st with sort := w0 } (w0 :: r) else takeFar { st with sort := w0 } (w0 :: r)) else none
def takeLine (st : RSt) (z : Str) : Option RSt := takeWords st (Txt.split z " ")
theorem behind_ok {s z : Str} (h : z ∈ behind s) : sortOk z := by
  unfold behind at h
  unfold sortOk
  split at h
  · simp at h; simp [h]
  · split at h
    · simp at h; simp [h]
    · split at h
      · simp at h; rcases h with h | h | h <;> simp [h]
      · split at h
        · simp at h; rcases h with h | h <;> simp [h]
        · simp at h; simp [h]
end SL
namespace SK
open PySem PySem.Spec PyProof.Rows L2 SL
section
variable {w : World} {K : PySem.W.Frag} {mg : Str → Option Value} {base : Heap}
theorem behindAt (T : Top w K mg) {s : Str} (h : sortOk s) : ∃ v, KDct K w (He.ga K "BEHIND") s (.ref v) ∧ ∀ H, SqT K H v ((behind s).map V.str) := by
  obtain ⟨es, n, D⟩ := T.t_BEHIND
  rcases h with rfl | rfl | rfl | rfl | rfl
  · obtain ⟨u, v, h1, h2, h3⟩ := T.t_BEHIND_0
    exact ⟨v, ⟨es, n, u, D.at_, D.lit, h1, h2⟩, h3⟩
  · obtain ⟨u, v, h1, h2, h3⟩ := T.t_BEHIND_1
    exact ⟨v, ⟨es, n, u, D.at_, D.lit, h1, h2⟩, h3⟩
  · obtain ⟨u, v, h1, h2, h3⟩ := T.t_BEHIND_2
    exact ⟨v, ⟨es, n, u, D.at_, D.lit, h1, h2⟩, h3⟩
  · obtain ⟨u, v, h1, h2, h3⟩ := T.t_BEHIND_3
    exact ⟨v, ⟨es, n, u, D.at_, D.lit, h1, h2⟩, h3⟩
  · obtain ⟨u, v, h1, h2, h3⟩ := T.t_BEHIND_4
    exact ⟨v, ⟨es, n, u, D.at_, D.lit, h1, h2⟩, h3⟩
def spRead (K : PySem.W.Frag) : Sp := sp2 fun self lv H Q _ => ∃ r dx a1 a2 a3 st z, self = .ref r ∧ lv = .str z ∧ RAt (cRd K) (cRow K) H r dx a1 a2 a3 st ∧ z.length ≤ 600 ∧ stOk 1000 st ∧ sortOk st.sort ∧
  (takeLine st z = none → ∀ H', Rk r a1 a2 a3 H H' → Q (.bl false) H') ∧ (∀ st', takeLine st z = some st' → ∀ H', Rk r a1 a2 a3 H H' → RAt (cRd K) (cRow K) H' r dx a1 a2 a3 st' → Q (.bl true) H')
abbrev n_Reader_take : List Str := ["self", "line", "words"]
theorem sc_Reader_take : FnScope n_Reader_take ["self", "line"] (defScope d_Reader_take) := ⟨rfl, rfl, rfl, by decide +kernel, rfl, by decide +kernel, by decide +kernel⟩
theorem ok_Reader_take (T : Top w K mg) : Has prg w K mg base CX0 6 (He.ma K (He.ga K "Reader") "take") ["self", "line"] (spRead K) := by
  obtain ⟨fd, F⟩ := T.F_Reader_take
  obtain ⟨fd_Reader_take_beside, G_Reader_take_beside, b_Reader_take_beside, k_Reader_take_beside⟩ := ok_Reader_take_beside (base := base) T
  obtain ⟨fd_Reader_take_class, G_Reader_take_class, b_Reader_take_class, k_Reader_take_class⟩ := ok_Reader_take_class (base := base) T
  obtain ⟨fd_Reader_take_zooms, G_Reader_take_zooms, b_Reader_take_zooms, k_Reader_take_zooms⟩ := ok_Reader_take_zooms (base := base) T
  obtain ⟨fd_Reader_take_far, G_Reader_take_far, b_Reader_take_far, k_Reader_take_far⟩ := ok_Reader_take_far (base := base) T
  refine ⟨fd, F.ok (k := 5) sc_Reader_take (fun _ _ _ _ h => sp2_len h) (fun cdv A outer s H vs Q E hr h => ?_), F.bindsN (fun _ _ _ _ _ _ us hl => match us, hl with | [_, _], _ => rfl), F.kp⟩
  obtain ⟨v0, v1, rfl, h⟩ := h
  refine ⟨_, PSs.nox (pss_cons (ps_set (i := 2) sc_Reader_take.nd rfl (Or.inl rfl) (pe_split (pv 1) pe_str))
    (pss_cons (ps_if (pt_cmpR op_notIn_seq (pe_ix ix_list (pv 2) pe_int (fun _ _ => rfl)) (pe_ix ix_kdict (pe_glob (v := .ref (He.ga K "BEHIND")) (by rfl) T.g_BEHIND rfl) (pe_fld (pv 0) rfl) (fun _ _ => rfl)) (by rfl)) (pss_one (ps_ret pe_bl)) pss_nil)
    (pss_cons (ps_fld (pv 0) (pe_ix ix_list (pv 2) pe_int (fun _ _ => rfl)) rfl)
    (pss_cons (ps_match (pe_ix ix_list (pv 2) pe_int (fun _ _ => rfl)) (pm_str (pss_one (ps_ret (pe_meth (pv 0) T.cl_Reader T.m_Reader_take_zooms G_Reader_take_zooms (hr.mono (by decide)) b_Reader_take_zooms .nil pass0 (pa_cons (pv 2) pa_nil)))) (pm_str (pss_one (ps_ret (pe_meth (pv 0) T.cl_Reader T.m_Reader_take_class G_Reader_take_class (hr.mono (by decide)) b_Reader_take_class .nil pass0 (pa_cons (pv 2) pa_nil)))) (pm_str (pss_one (ps_ret (pe_meth (pv 0) T.cl_Reader T.m_Reader_take_beside G_Reader_take_beside (hr.mono (by decide)) b_Reader_take_beside .nil pass0 (pa_cons (pv 2) pa_nil)))) pm_nil))))
    (pss_one (ps_ret (pe_meth (pv 0) T.cl_Reader T.m_Reader_take_far G_Reader_take_far (hr.mono (by decide)) b_Reader_take_far .nil pass0 (pa_cons (pv 2) pa_nil)))))))), ?_⟩
  obtain ⟨r, dx, a1, a2, a3, st, z, rfl, rfl, R, hz, hst, hso, qn, qs⟩ := h
  obtain ⟨b1, b2, b3⟩ := split_bounds (y := " ") (s := 32) (by decide +kernel) (by decide +kernel) z
  refine ⟨_, rfl, ⟨_, rfl⟩, _, _, rfl, rfl, by decide, Nat.le_trans (show z.length + 2 ≤ 1000 by omega) (by decide), fun W hW => ?_⟩
  have hl : (Txt.split z " ").length ≤ 1000 := by omega
  have hzw : ∀ p ∈ Txt.split z " ", p.length ≤ 640 := fun p hp => Nat.le_trans (b3 p hp) (by omega)
  have hq : takeLine st z = takeWords st (Txt.split z " ") := rfl
  rw [hq] at qn qs
  generalize Txt.split z " " = ws at hW b1 b2 b3 hl hzw qn qs ⊢
  obtain ⟨w0, rs, rfl⟩ := List.exists_cons_of_ne_nil b2
  have s1 : Same H (upd H W (.lst ((w0 :: rs).map V.str))) := same_new hW
  have hW1 : upd H W (.lst ((w0 :: rs).map V.str)) W = some (.lst ((w0 :: rs).map V.str)) := upd_same
  have R1 := R.same s1
  generalize upd H W (.lst ((w0 :: rs).map V.str)) = H1 at s1 hW1 R1 ⊢
  obtain ⟨bv, bd, bt⟩ := behindAt T hso
  refine ⟨_, rfl, W, _, _, V.str w0, rfl, rfl, SqL.of hW1, atI_nat (j := 0) rfl, _, rfl, r, _, dx, _, _, rfl, R1.obj, T.cl_Reader, T.na_Reader_own_sort, rfl, _, _, _, rfl, rfl, bd, ?_⟩
  refine ⟨bv, _, rfl, .inr (bt _), rfl, flat_strs _, _, rfl, ?_⟩
  show if (!inV (.str w0) ((behind st.sort).map V.str)) = true then _ else _
  rw [inV_str]
  by_cases hb : w0 ∈ behind st.sort
  · rw [decide_eq_true hb]
    have nrW : r ≠ W := fun e => by
      have := R1.obj
      rw [e, hW1] at this
      cases this
    refine ⟨_, rfl, W, _, _, V.str w0, rfl, rfl, SqL.of hW1, atI_nat (j := 0) rfl, _, rfl, r, _, dx, _, rfl, R1.obj, T.cl_Reader, T.na_Reader_own_sort, by show 5 < 1000; decide, ?_⟩
    have R2 := R1.setObj (sort := w0) (last := st.last)
    have hW2 : (upd H1 r (.ins (cRd K) dx [("own_sort", .str w0), ("own_last", .int st.last), ("own_rows", .ref a1), ("own_beside", .ref a2), ("own_far", .ref a3)])) W = some (.lst ((w0 :: rs).map V.str)) := by
      rw [upd_ne (Ne.symm nrW)]
      exact hW1
    have rk2 : Rk r a1 a2 a3 H (upd H1 r (.ins (cRd K) dx [("own_sort", .str w0), ("own_last", .int st.last), ("own_rows", .ref a1), ("own_beside", .ref a2), ("own_far", .ref a3)])) := fun b o n _ _ _ hb => by
      rw [upd_ne n]
      exact s1 _ _ hb
    generalize hH2 : upd H1 r (.ins (cRd K) dx [("own_sort", .str w0), ("own_last", .int st.last), ("own_rows", .ref a1), ("own_beside", .ref a2), ("own_far", .ref a3)]) = H2 at R2 hW2 rk2
    have hT : takeWords st (w0 :: rs) = if w0 = "zooms" then takeZooms { st with sort := w0 } (w0 :: rs) else if w0 = "class" then takeClass { st with sort := w0 } (w0 :: rs) else if w0 = "beside" then takeBeside { st with sort := w0 } (w0 :: rs) else takeFar { st with sort := w0 } (w0 :: rs) := if_pos hb
    rw [hT] at qn qs
    have sub : ∀ f, (f { st with sort := w0 } (w0 :: rs) = none → ∀ H', Rk r a1 a2 a3 H H' → Q (.bl false) H') → (∀ st', f { st with sort := w0 } (w0 :: rs) = some st' → ∀ H', Rk r a1 a2 a3 H H' → RAt (cRd K) (cRow K) H' r dx a1 a2 a3 st' → Q (.bl true) H') →
        spTk K f [.ref r, .ref W] H2 Q E0 := fun f fn fs =>
      ⟨_, _, rfl, r, dx, a1, a2, a3, _, W, _, rfl, rfl, R2, hW2, hl, hzw, hst, fun e H' rk => fn e H' (rk2.trans rk), fun st' e H' rk ra => fs st' e H' (rk2.trans rk) ra⟩
    subst hH2
    refine ⟨_, rfl, W, _, _, V.str w0, rfl, rfl, SqL.of hW2, atI_nat (j := 0) rfl, w0, rfl, ?_⟩
    by_cases c1 : w0 = "zooms"
    · rw [if_pos c1] at qn qs ⊢
      exact ⟨_, rfl, r, dx, _, rfl, R2.obj, rfl, _, rfl, sub _ qn qs⟩
    · rw [if_neg c1] at qn qs ⊢
      refine ⟨w0, rfl, ?_⟩
      by_cases c2 : w0 = "class"
      · rw [if_pos c2] at qn qs ⊢
        exact ⟨_, rfl, r, dx, _, rfl, R2.obj, rfl, _, rfl, sub _ qn qs⟩
      · rw [if_neg c2] at qn qs ⊢
        refine ⟨w0, rfl, ?_⟩
        by_cases c3 : w0 = "beside"
        · rw [if_pos c3] at qn qs ⊢
          exact ⟨_, rfl, r, dx, _, rfl, R2.obj, rfl, _, rfl, sub _ qn qs⟩
        · rw [if_neg c3] at qn qs ⊢
          exact ⟨_, rfl, r, dx, _, rfl, R2.obj, rfl, _, rfl, sub _ qn qs⟩
  · rw [decide_eq_false hb]
    refine qn ?_ _ (Rk.of s1)
    exact if_neg hb
end
end SK

set_option maxHeartbeats 4000000
namespace SL
open PySem PySem.Spec PyProof.Rows L2 TL
def readL : RSt → Nat → List Str → Except Nat RSt
  | st, _, [] => .ok st
  | st, n, z :: zs => match takeLine st z with
    | none => .error (n + 1)
    | some st' => readL st' (n + 1) zs
theorem readL_some {st st' : RSt} {n : Nat} {z : Str} {zs : List Str} (h : takeLine st z = some st') : readL st n (z :: zs) = readL st' (n + 1) zs := by
  show (match takeLine st z with | none => Except.error (n + 1) | some st' => readL st' (n + 1) zs) = _
  rw [h]
def stZero : RSt := ⟨"", 0, [], [], []⟩
def readStyle (x : Str) : Except Nat RSt := match readL stZero 0 (Txt.split x "\n") with
  | .error n => .error n
  | .ok st => if st.rows = [] then .error ((Txt.split x "\n").length + 1) else .ok st
theorem takeWords_len {st st' : RSt} {ws : List Str} {n : Nat} (h : takeWords st ws = some st') (hn : stOk n st) : stOk (n + 1) st' ∧ sortOk st'.sort := by
  unfold takeWords at h
  split at h
  · cases h
  · rename_i w0 r
    split at h
    · rename_i hb
      have so := behind_ok hb
      obtain ⟨h1, h2, h3⟩ := hn
      split at h
      · unfold takeZooms at h
        split at h
        · obtain ⟨k, _, h⟩ := Option.bind_eq_some_iff.mp h
          split at h
          · have := Option.some.inj h
            subst this
            exact ⟨⟨Nat.le_succ_of_le h1, Nat.le_succ_of_le h2, Nat.le_succ_of_le h3⟩, so⟩
          · cases h
        · cases h
      · split at h
        · unfold takeClass at h
          obtain ⟨k, _, h⟩ := Option.bind_eq_some_iff.mp h
          split at h
          · cases h
          · have := Option.some.inj h
            subst this
            refine ⟨⟨?_, Nat.le_succ_of_le h2, Nat.le_succ_of_le h3⟩, so⟩
            simp only [List.length_append, List.length_singleton]
            omega
        · split at h
          · unfold takeBeside at h
            split at h
            · obtain ⟨k, _, h⟩ := Option.bind_eq_some_iff.mp h
              split at h
              · cases h
              · have := Option.some.inj h
                subst this
                refine ⟨⟨Nat.le_succ_of_le h1, ?_, Nat.le_succ_of_le h3⟩, so⟩
                simp only [List.length_append, List.length_singleton]
                omega
            · cases h
          · unfold takeFar at h
            split at h
            · obtain ⟨k, _, h⟩ := Option.bind_eq_some_iff.mp h
              split at h
              · cases h
              · obtain ⟨k2, _, h⟩ := Option.bind_eq_some_iff.mp h
                split at h
                · have := Option.some.inj h
                  subst this
                  refine ⟨⟨Nat.le_succ_of_le h1, Nat.le_succ_of_le h2, ?_⟩, so⟩
                  simp only [List.length_append, List.length_singleton]
                  omega
                · cases h
            · cases h
    · cases h
theorem stOk.mono {n m : Nat} {st : RSt} (h : stOk n st) (e : n ≤ m) : stOk m st := ⟨Nat.le_trans h.1 e, Nat.le_trans h.2.1 e, Nat.le_trans h.2.2 e⟩
end SL
namespace SK
open PySem PySem.Spec PyProof.Rows L2 SL
section
variable {w : World} {K : PySem.W.Frag} {mg : Str → Option Value} {base : Heap}
def spReadStyle (K : PySem.W.Frag) : Sp := sp1 fun v H Q E => (∃ n, Kn H v n) ∧ (isStrV v = false → Rz H E (He.ga K "BadStyle") (.int 0)) ∧
  ∀ x, v = .str x → x.length ≤ 500000 ∧ (Txt.split x "\n").length ≤ 900 ∧ (∀ z ∈ Txt.split x "\n", z.length ≤ 600) ∧ (∀ n, readStyle x = .error n → Rz H E (He.ga K "BadStyle") (.int (n : Nat))) ∧
    (∀ st, readStyle x = .ok st → ∀ H' r dx a1 a2 a3, Same H H' → RAt (cRd K) (cRow K) H' r dx a1 a2 a3 st → Q (.ref r) H')
abbrev n_read_style : List Str := ["text", "reader", "lines", "at", "line"]
theorem sc_read_style : FnScope n_read_style ["text"] (defScope d_read_style) := ⟨rfl, rfl, rfl, by decide +kernel, rfl, by decide +kernel, by decide +kernel⟩
theorem ok_read_style (T : Top w K mg) : Has prg w K mg base (L2.CX prg w) 7 (He.ga K "read_style") ["text"] (spReadStyle K) := by
  obtain ⟨fd, F⟩ := T.F_read_style
  obtain ⟨fd_Reader_init, G_Reader_init, b_Reader_init, k_Reader_init⟩ := ok_Reader_init (base := base) T
  obtain ⟨fd_Reader_take, G_Reader_take, b_Reader_take, k_Reader_take⟩ := ok_Reader_take (base := base) T
  refine ⟨fd, F.ok (k := 6) sc_read_style (fun _ _ _ _ h => sp1_len h) (fun cdv A outer s H vs Q E hr h => ?_), F.bindsN (fun _ _ _ _ _ _ us hl => match us, hl with | [_], _ => rfl), F.kp⟩
  obtain ⟨v0, rfl, h⟩ := h
  refine ⟨_, (pss_cons (ps_if (pt_not (pt_val (pe_callB call_isi (by rfl) T.b_isinstance (by decide +kernel) (pa_cons (pv 0) (pa_cons (pe_bltn (v := .ty "str") (by rfl) T.b_str (by decide +kernel) rfl) pa_nil))))) (pss_one (ps_raiseE T.ini T.b_super T.er_BadStyle (hr.mono (by decide)) (by rfl) T.g_BadStyle (by rfl) (takes_of rfl rfl rfl rfl) pe_int)) pss_nil)
    (pss_cons (ps_par (i := 1) (j := 2) (by rfl) sc_read_style.nd rfl rfl (by decide) rfl rfl (pa_cons (pe_make0 T.mk_Reader G_Reader_init (hr.mono (by decide)) (by rfl) T.g_Reader b_Reader_init .nil pass0) (pa_cons (pe_split (pv 0) pe_str) pa_nil)) (by rfl))
    (pss_cons (ps_for (passes_of rfl) rfl (pi_enum (by rfl) T.b_enumerate (pa_cons (pv 2) pa_nil)) (pg_tup rfl (pgs_cons (pg_name (i := 3) sc_read_style.nd rfl (Or.inl rfl)) (pgs_cons (pg_name (i := 4) sc_read_style.nd rfl (Or.inl rfl)) pgs_nil))) (pss_one (ps_if (pt_not (pt_val (pe_meth (pv 1) T.cl_Reader T.m_Reader_take G_Reader_take (hr.mono (by decide)) b_Reader_take .nil pass0 (pa_cons (pv 4) pa_nil)))) (pss_one (ps_raiseE T.ini T.b_super T.er_BadStyle (hr.mono (by decide)) (by rfl) T.g_BadStyle (by rfl) (takes_of rfl rfl rfl rfl) (pe_op op_add (pv 3) pe_int))) pss_nil)))
    (pss_cons (ps_if (pt_cmpR (op_eqNil hr.units) (pe_fld (pv 1) rfl) (pe_lst pa_nil) (nomark _)) (pss_one (ps_raiseE T.ini T.b_super T.er_BadStyle (hr.mono (by decide)) (by rfl) T.g_BadStyle (by rfl) (takes_of rfl rfl rfl rfl) (pe_op op_add (pe_callB call_len (by rfl) T.b_len (by decide +kernel) (pa_cons (pv 2) pa_nil)) pe_int))) pss_nil)
    (pss_one (ps_ret (pv 1))))))), ?_⟩
  obtain ⟨⟨n, kn⟩, hbad, hx⟩ := h
  refine ⟨_, rfl, _, _, _, _, _, rfl, .ty _, kn.tyx, kn.kStr, _, rfl, ?_⟩
  cases hv : isStrV v0 with
  | false => exact Rz.fin T.er_BadStyle (hbad hv)
  | true =>
    obtain ⟨x, rfl⟩ : ∃ x, v0 = .str x := by
      cases v0 <;> first | exact ⟨_, rfl⟩ | cases hv
    obtain ⟨hx1, hx2, hx3, herr, hok⟩ := hx x rfl
    refine fun r dx hr' hdx hne => ⟨_, rfl, r, dx, rfl, upd_same, fun H1 a1 a2 a3 k1 f1 f2 f3 R1 => ⟨rfl, ?_⟩⟩
    have s1 : Same H H1 := fun b o hb => by
      have n1 : b ≠ r := ne_of_none hb hr'
      have n2 : b ≠ dx := ne_of_none hb hdx
      exact k1 b o n1 (by rw [upd_ne n1, upd_ne n2]; exact hb)
    refine ⟨_, rfl, ⟨_, rfl⟩, _, _, rfl, rfl, by decide, Nat.le_trans (show x.length + 2 ≤ 600000 by omega) (by decide), fun L hL => ?_⟩
    have hRS : readStyle x = match readL stZero 0 (Txt.split x "\n") with | .error n => .error n | .ok st => if st.rows = [] then .error ((Txt.split x "\n").length + 1) else .ok st := rfl
    generalize Txt.split x "\n" = ls at hx2 hx3 hRS hL ⊢
    have s2 : Same H1 (upd H1 L (.lst (ls.map V.str))) := same_new hL
    have hL2 : upd H1 L (.lst (ls.map V.str)) L = some (.lst (ls.map V.str)) := upd_same
    have R2 := R1.same s2
    generalize upd H1 L (.lst (ls.map V.str)) = H2 at s2 hL2 R2 ⊢
    have nr : L ≠ r := fun e => by rw [e, R1.obj] at hL; cases hL
    have n1 : L ≠ a1 := fun e => by obtain ⟨vs, h, _⟩ := R1.rows; rw [e, h] at hL; cases hL
    have n2 : L ≠ a2 := fun e => by obtain ⟨vs, h, _⟩ := R1.beside; rw [e, h] at hL; cases hL
    have n3 : L ≠ a3 := fun e => by obtain ⟨vs, h, _⟩ := R1.far; rw [e, h] at hL; cases hL
    have up : ∀ {b : Addr}, upd (upd H dx (.own r)) r (.ins (cRd K) dx []) b = none → H b = none := fun {b} h => by
      have m1 : b ≠ r := fun e => by rw [e, upd_same] at h; cases h
      rw [upd_ne m1] at h
      have m2 : b ≠ dx := fun e => by rw [e, upd_same] at h; cases h
      rw [upd_ne m2] at h
      exact h
    have rkS : ∀ {Ha Hb : Hp}, Same H Ha → Rk r a1 a2 a3 Ha Hb → Same H Hb := fun {Ha Hb} sa rk b o hb =>
      rk b o (ne_of_none hb hr') (ne_of_none hb (up f1)) (ne_of_none hb (up f2)) (ne_of_none hb (up f3)) (sa b o hb)
    refine ⟨_, _, rfl, ?_⟩
    refine ⟨_, rfl, L, _, rfl, SqL.of hL2, for_it (walk_enum (K := K) (a := L) (xs := ls.map V.str)) (fun i σ H' => ∃ (st : RSt) (v3 v4 : Option V), σ = [some (.str x), some (.ref r), some (.ref L), v3, v4] ∧ Same H H' ∧ H' L = some (.lst (ls.map V.str)) ∧
      RAt (cRd K) (cRow K) H' r dx a1 a2 a3 st ∧ stOk i st ∧ sortOk st.sort ∧ readL stZero 0 ls = readL st i (ls.drop i)) ⟨stZero, none, none, rfl, s1.trans s2, hL2, R2, ⟨Nat.le_refl _, Nat.le_refl _, Nat.le_refl _⟩, .inl rfl, rfl⟩ ?_ ?_ ?_⟩
    · rintro i σ H' _ ⟨st, v3, v4, _, _, hL', _⟩
      exact SqL.of hL'
    · rintro i y σ H3 H4 hi ⟨st, v3, v4, rfl, s3, hL3, R3, ok3, so3, rd3⟩ ⟨Tt, x1, y1, rfl, hT, rfl, e1, e2⟩
      cases e1
      have e2 : (ls.map V.str)[i]? = some y1 := e2
      rw [List.getElem?_map] at e2
      obtain ⟨z, hz, rfl⟩ := Option.map_eq_some_iff.mp e2
      rw [List.length_map] at hi
      have s4 : Same H3 (upd H3 Tt (.tup [V.int i, V.str z])) := same_new hT
      have R4 := R3.same s4
      have hL4 := s4 _ _ hL3
      have hdrop : ls.drop i = z :: ls.drop (i + 1) := by
        rw [List.drop_eq_getElem_cons hi]
        rw [List.getElem?_eq_getElem hi] at hz
        rw [Option.some.inj hz]
      rw [hdrop] at rd3
      refine ⟨Tt, _, rfl, SqT.of upd_same, rfl, _, _, rfl, _, _, rfl, rfl, ?_⟩
      refine ⟨_, rfl, r, dx, _, rfl, R4.obj, rfl, _, rfl, ?_⟩
      refine ⟨_, _, rfl, r, dx, a1, a2, a3, st, z, rfl, rfl, R4, hx3 z (List.mem_of_getElem? hz), ok3.mono (by omega), so3, fun ht H5 rk => ?_, fun st' ht H5 rk R5 => ?_⟩
      · refine ⟨_, rfl, ?_⟩
        refine ⟨_, rfl, _, _, rfl, rfl, Rz.fin T.er_BadStyle ?_⟩
        have er : readStyle x = .error (i + 1) := by
          have e : readL st i (z :: ls.drop (i + 1)) = .error (i + 1) := by
            unfold readL
            rw [ht]
          rw [hRS, rd3, e]
        exact (herr _ er).from (rkS (s3.trans s4) rk)
      · refine ⟨_, rfl, ?_⟩
        obtain ⟨ok5, so5⟩ := takeWords_len (show takeWords st (Txt.split z " ") = some st' from ht) ok3
        refine ⟨st', _, _, rfl, rkS (s3.trans s4) rk, rk L _ nr n1 n2 n3 hL4, R5, ok5, so5, ?_⟩
        rw [rd3, readL_some ht]
    · rintro σ H3 ⟨st, v3, v4, rfl, s3, hL3, R3, ok3, so3, rd3⟩
      rw [List.length_map, List.drop_length] at rd3
      have rd3 : readL stZero 0 ls = .ok st := rd3
      obtain ⟨vs, hv, hR⟩ := R3.rows
      refine ⟨_, rfl, r, _, dx, _, _, rfl, R3.obj, T.cl_Reader, T.na_Reader_own_rows, rfl, (by show 0 ≤ sizeLine; decide), fun e he => ?_⟩
      have s4 : Same H3 (upd H3 e (.lst [])) := same_new he
      refine ⟨a1, e, vs, rfl, rfl, SqL.of (s4 _ _ hv), upd_same, _, rfl, ?_⟩
      have hlen := hR.len
      cases vs with
      | nil =>
        have hrn : st.rows = [] := List.eq_nil_of_length_eq_zero hlen.symm
        refine ⟨_, rfl, _, ls.length, rfl, .inl ⟨_, SqL.of (s4 _ _ hL3), by rw [List.length_map]⟩, _, _, rfl, rfl, Rz.fin T.er_BadStyle ?_⟩
        have er : readStyle x = .error (ls.length + 1) := by
          rw [hRS, rd3]
          exact if_pos hrn
        exact (herr _ er).from (s3.trans s4)
      | cons v vs =>
        have hrn : st.rows ≠ [] := fun z => by rw [z] at hlen; cases hlen
        refine ⟨_, rfl, hok st ?_ _ r dx a1 a2 a3 (s3.trans s4) (R3.same s4)⟩
        rw [hRS, rd3]
        exact if_neg hrn
end
end SK

set_option maxHeartbeats 4000000
namespace SL
open PySem PySem.Spec PyProof.Rows L2 TL
/-- a dict comprehension over a walk -/
theorem dc_it {J : It} {n : Nat} {G : Hp → Prop} {Y : Nat → Hp → V → Hp → Prop} (w : Walk J n G Y) {g : TG} {tt : TT} {tk tv : TE} {vs : List Nat} {σ : L2.St} {H1 : Hp} {D : Addr} {Qd : Hp → Prop} (Pv : Nat → Hp → Prop) (h0 : Pv 0 (upd H1 D (.dK []))) (hG : ∀ i H, i ≤ n → Pv i H → G H)
    (hs : ∀ i x H H', i < n → Pv i H → Y i H x H' → g x (wipe σ vs) H' fun σ2 H2 => wipe σ2 vs = wipe σ vs ∧ tt σ2 H2 fun b H3 =>
      if b = true then tk σ2 H3 fun y H4 => tv σ2 H4 fun z H5 => ∃ kvs k, y = kV k ∧ H5 D = some (.dK kvs) ∧ kvs.length < sizeLine ∧ Pv (i + 1) (upd H5 D (.dK (putK kvs k z))) else Pv (i + 1) H3) (hd : ∀ H, Pv n H → Qd H) :
    ∃ W : Nat → Nat → Hp → Prop, (∃ m, W 0 m (upd H1 D (.dK []))) ∧ ∀ i m H, W i m H →
      (J.stop i H ∧ Qd H) ∨ (J.go i H ∧ ∃ Nx : Hp → Prop, (∀ H', Nx H' → ∃ m', m' < m ∧ W (i + 1) m' H') ∧ ∀ x H', J.yld i H x H' → g x (wipe σ vs) H' fun σ2 H2 => wipe σ2 vs = wipe σ vs ∧ tt σ2 H2 fun b H3 =>
        if b = true then tk σ2 H3 fun y H4 => tv σ2 H4 fun z H5 => ∃ kvs k, y = kV k ∧ H5 D = some (.dK kvs) ∧ kvs.length < sizeLine ∧ Nx (upd H5 D (.dK (putK kvs k z))) else Nx H3) := by
  refine ⟨fun i m H => m = n - i ∧ i ≤ n ∧ Pv i H, ⟨n, by simp, Nat.zero_le _, h0⟩, ?_⟩
  rintro i m H ⟨rfl, hi, p⟩
  have q := hG i H hi p
  by_cases hlt : i < n
  · refine .inr ⟨w.goes i H hlt q, Pv (i + 1), fun H' p' => ⟨n - (i + 1), by omega, rfl, hlt, p'⟩, fun x H' y => hs i x H H' hlt p (w.yields i H x H' hlt q y)⟩
  · have e : i = n := by omega
    subst e
    exact .inl ⟨w.stops H q, hd H p⟩
/-- strictly ascending pairs -/
def Asc (l : List (Nat × Nat)) : Prop := l.Pairwise fun p q => pairLe q p = false
theorem pairLe_tr {p q r : Nat × Nat} (h1 : pairLe q p = false) (h2 : pairLe r q = false) : pairLe r p = false := by
  unfold pairLe at *
  split at h1 <;> split at h2 <;> split <;> simp only [decide_eq_false_iff_not] at * <;> omega
theorem Asc.snoc {l : List (Nat × Nat)} {p : Nat × Nat} (h : Asc l) (hp : (l.getLast?.any fun q => pairLe p q) = false) : Asc (l ++ [p]) := by
  unfold Asc at *
  rw [List.pairwise_append]
  refine ⟨h, List.pairwise_singleton _ _, fun a ha b hb => ?_⟩
  rw [List.mem_singleton.mp hb]
  cases e : l.getLast? with
  | none =>
    rw [List.getLast?_eq_none_iff.mp e] at ha
    cases ha
  | some q =>
    rw [e] at hp
    have hp : pairLe p q = false := hp
    obtain ⟨ys, rfl⟩ := List.getLast?_eq_some_iff.mp e
    rcases List.mem_append.mp ha with ha | ha
    · exact pairLe_tr ((List.pairwise_append.mp h).2.2 a ha q (by simp)) hp
    · rw [List.mem_singleton.mp ha]
      exact hp
theorem Asc.nodup {l : List (Nat × Nat)} (h : Asc l) : l.Nodup := h.imp fun {a b} hab e => by
  subst e
  unfold pairLe at hab
  simp at hab
structure StWF (st : RSt) : Prop where
  nd : (names st).Nodup
  be : Asc st.beside
  fa : Asc (st.far.map (·.1))
theorem StWF.zero : StWF stZero := ⟨by simp [names, stZero], by simp [Asc, stZero], by simp [Asc, stZero]⟩
theorem takeWords_wf {st st' : RSt} {ws : List Str} (h : takeWords st ws = some st') (hw : StWF st) : StWF st' := by
  obtain ⟨nd, be, fa⟩ := hw
  unfold takeWords at h
  split at h
  · cases h
  · rename_i w0 r
    split at h
    · split at h
      · unfold takeZooms at h
        split at h
        · obtain ⟨k, _, h⟩ := Option.bind_eq_some_iff.mp h
          split at h
          · have := Option.some.inj h
            subst this
            exact ⟨nd, be, fa⟩
          · cases h
        · cases h
      · split at h
        · unfold takeClass at h
          obtain ⟨k, _, h⟩ := Option.bind_eq_some_iff.mp h
          split at h
          · cases h
          · rename_i hk
            have := Option.some.inj h
            subst this
            refine ⟨?_, be, fa⟩
            have hk2 : k.name ∉ names st := fun z => hk (.inr z)
            show ((st.rows ++ [k]).map (·.name)).Nodup
            rw [List.map_append, List.nodup_append]
            refine ⟨nd, by simp, fun a ha b hb => ?_⟩
            rw [List.map_singleton] at hb
            rw [List.mem_singleton.mp hb]
            exact fun e => hk2 (by rw [← e]; exact ha)
        · split at h
          · unfold takeBeside at h
            split at h
            · obtain ⟨k, _, h⟩ := Option.bind_eq_some_iff.mp h
              split at h
              · cases h
              · rename_i hk
                have := Option.some.inj h
                subst this
                exact ⟨nd, be.snoc (Bool.eq_false_iff.mpr hk), fa⟩
            · cases h
          · unfold takeFar at h
            split at h
            · obtain ⟨k, _, h⟩ := Option.bind_eq_some_iff.mp h
              split at h
              · cases h
              · rename_i hk
                obtain ⟨k2, _, h⟩ := Option.bind_eq_some_iff.mp h
                split at h
                · have := Option.some.inj h
                  subst this
                  refine ⟨nd, be, ?_⟩
                  show Asc ((st.far ++ [(k, k2)]).map (·.1))
                  rw [List.map_append]
                  refine fa.snoc ?_
                  rw [List.getLast?_map, Option.any_map]
                  exact Bool.eq_false_iff.mpr hk
                · cases h
            · cases h
    · cases h
theorem readL_wf : ∀ {zs : List Str} {st st' : RSt} {n : Nat}, readL st n zs = .ok st' → StWF st → StWF st'
  | [], st, st', n, h, hw => by
    cases h
    exact hw
  | z :: zs, st, st', n, h, hw => by
    cases e : takeLine st z with
    | none =>
      rw [show readL st n (z :: zs) = match takeLine st z with | none => Except.error (n + 1) | some st' => readL st' (n + 1) zs from rfl, e] at h
      cases h
    | some s1 =>
      rw [readL_some e] at h
      exact readL_wf h (takeWords_wf (show takeWords st (Txt.split z " ") = some s1 from e) hw)
theorem readStyle_wf {x : Str} {st : RSt} (h : readStyle x = .ok st) : StWF st ∧ st.rows ≠ [] ∧ readL stZero 0 (Txt.split x "\n") = .ok st := by
  unfold readStyle at h
  split at h
  · cases h
  · rename_i s1 e
    split at h
    · cases h
    · rename_i hr
      have := Except.ok.inj h
      subst this
      exact ⟨readL_wf e StWF.zero, hr, e⟩
/-- a style's object -/
structure SAt (CS CW : Addr) (H : Hp) (v : V) (x : Str) (st : RSt) : Prop where
  ex : ∃ s dx a1 a2 a3 a4 vs kvs ws, v = .ref s ∧ H s = some (.ins CS dx [("own_text", .str x), ("own_last", .int st.last), ("own_rows", .ref a1), ("own_ranks", .ref a2), ("own_beside", .ref a3), ("own_far", .ref a4)]) ∧
    H a1 = some (.tup vs) ∧ RowsAt CW H vs st.rows ∧ H a2 = some (.dK kvs) ∧ (∀ z, valV kvs (.inr z) = if z ∈ names st then some (.int ((names st).idxOf z : Nat)) else none) ∧
    H a3 = some (.tup ws) ∧ RvL H ws (st.beside.map pairD) ∧ H a4 = some (.dT (st.far.map fun p => ([.inl p.1.1, .inl p.1.2], .int p.2)))
  wf : StWF st
  le : stOk 1000 st
theorem SAt.same {CS CW : Addr} {H H' : Hp} {v : V} {x : Str} {st : RSt} (s : Same H H') (h : SAt CS CW H v x st) : SAt CS CW H' v x st := by
  obtain ⟨⟨s0, dx, a1, a2, a3, a4, vs, kvs, ws, e, h1, h2, h3, h4, h5, h6, h7, h8⟩, wf, le⟩ := h
  exact ⟨⟨s0, dx, a1, a2, a3, a4, vs, kvs, ws, e, s _ _ h1, s _ _ h2, h3.same s, s _ _ h4, h5, s _ _ h6, h7.same s, s _ _ h8⟩, wf, le⟩
theorem idx_nd {l : List Str} (h : l.Nodup) {i : Nat} {z : Str} (e : l[i]? = some z) : l.idxOf z = i := by
  have hm := List.mem_of_getElem? e
  have hlt := List.idxOf_lt_length_of_mem hm
  have e1 : l[l.idxOf z]? = some z := by
    rw [List.getElem?_eq_getElem hlt]
    have := List.findIdx_getElem (p := (· == z)) (xs := l) (w := hlt)
    exact congrArg some (beq_iff_eq.mp this)
  exact nd_ix h e1 e
end SL

set_option maxHeartbeats 4000000
namespace SL
open PySem PySem.Spec PyProof.Rows L2 TL
theorem units2 {n : Nat} (h : n + 64 < cLine) : n + 2 < cLine := by omega
theorem putK_len {κ : Type} [DecidableEq κ] (kvs : List (κ × V)) (k : κ) (v : V) : (putK kvs k v).length ≤ kvs.length + 1 := by
  unfold putK
  split
  · rw [List.length_map]
    omega
  · simp
/-- all but s stays -/
def Os (s : Addr) (H H' : Hp) : Prop := ∀ b o, b ≠ s → H b = some o → H' b = some o
theorem Os.of {s : Addr} {H H' : Hp} (h : Same H H') : Os s H H' := fun b o _ e => h b o e
theorem Os.trans {s : Addr} {H H1 H2 : Hp} (a : Os s H H1) (b : Os s H1 H2) : Os s H H2 := fun c o hc e => b c o hc (a c o hc e)
theorem Os.upd {s : Addr} {H : Hp} {o : HO} : Os s H (L2.upd H s o) := fun b u hb e => by rw [upd_ne hb]; exact e
/-- an object that is no part of a reader's: an instance of a style -/
def Sty (H : Hp) (s : Addr) : Prop := ∃ C dx fs, H s = some (.ins C dx fs) ∧ NotRow (.ins C dx fs) ∧ ∀ (v : V) (r : List (Str × V)), fs ≠ (("own_sort" : Str), v) :: r
theorem Sty.tk {H H' : Hp} {s : Addr} (h : Sty H s) (o : Os s H H') : Tk H H' := fun b xs hb => o b _ (fun e => by
  obtain ⟨C, dx, fs, h1, _⟩ := h
  rw [e, h1] at hb
  cases hb) hb
theorem RowAt.os {C s : Addr} {H H' : Hp} {v : V} {r : Row} (h : RowAt C H v r) (hs : Sty H s) (o : Os s H H') : RowAt C H' v r := by
  obtain ⟨c, dx, t1, t2, e, h1, h2, h3⟩ := h
  have n1 : c ≠ s := fun z => by
    obtain ⟨C, dx, fs, g1, g2, _⟩ := hs
    rw [z, g1] at h1
    exact g2.2 _ _ _ _ (Option.some.inj h1)
  exact ⟨c, dx, t1, t2, e, o _ _ n1 h1, hs.tk o _ _ h2, hs.tk o _ _ h3⟩
theorem RowsAt.os {C s : Addr} {H H' : Hp} {vs : List V} {rs : List Row} (h : RowsAt C H vs rs) (hs : Sty H s) (o : Os s H H') : RowsAt C H' vs rs := Paired.mono (fun _ _ x => RowAt.os x hs o) h
theorem Sty.lst {H H' : Hp} {s a : Addr} {l : List V} (hs : Sty H s) (o : Os s H H') (h : H a = some (.lst l)) : H' a = some (.lst l) := o _ _ (fun e => by
  obtain ⟨C, dx, fs, g1, _⟩ := hs
  rw [e, g1] at h
  cases h) h
theorem RAt.os {CR CW r dx a1 a2 a3 s : Addr} {H H' : Hp} {st : RSt} (h : RAt CR CW H r dx a1 a2 a3 st) (hs : Sty H s) (o : Os s H H') : RAt CR CW H' r dx a1 a2 a3 st := by
  obtain ⟨h1, ⟨v1, h2, h2'⟩, ⟨v2, h3, h3'⟩, ⟨v3, h4, h4'⟩, d1, d2, d3⟩ := h
  have n1 : r ≠ s := fun z => by
    obtain ⟨C, dx, fs, g1, _, g3⟩ := hs
    rw [z, g1] at h1
    exact g3 _ _ (HO.ins.inj (Option.some.inj h1)).2.2
  exact ⟨o _ _ n1 h1, ⟨v1, hs.lst o h2, h2'.os hs o⟩, ⟨v2, hs.lst o h3, h3'.tk (hs.tk o) (pairD_fz _)⟩, ⟨v3, hs.lst o h4, h4'.tk (hs.tk o) (farD_fz _)⟩, d1, d2, d3⟩
theorem Sty.nil {H : Hp} {s C dx : Addr} (h : H s = some (.ins C dx [])) : Sty H s := ⟨C, dx, [], h, ⟨fun _ e => (nomatch e), fun _ _ _ _ e => by
  have := (HO.ins.inj e).2.2
  cases this⟩, fun _ _ e => (nomatch e)⟩
theorem Sty.txt {H : Hp} {s C dx : Addr} {v : V} {r : List (Str × V)} (h : H s = some (.ins C dx (("own_text", v) :: r))) : Sty H s := ⟨C, dx, _, h, ⟨fun _ e => (nomatch e), fun _ _ _ _ e => by
  have h1 := congrArg Prod.fst (List.cons.inj (HO.ins.inj e).2.2).1
  exact absurd h1 (show ("own_text" : Str) ≠ "own_name" by decide)⟩, fun _ _ e => by
  have h1 := congrArg Prod.fst (List.cons.inj e).1
  exact absurd h1 (show ("own_text" : Str) ≠ "own_sort" by decide)⟩
theorem far_pairs {H : Hp} : ∀ {l : List ((Nat × Nat) × Int)} {vs : List V}, RvL H vs (l.map farD) → ∃ ps : List (Addr × Addr), vs = ps.map (fun p => V.ref p.1) ∧
    Paired (fun (p : Addr × Addr) (kv : List Key × V) => H p.1 = some (.tup [.ref p.2, kv.2]) ∧ H p.2 = some (.tup (kv.1.map kV))) ps (l.map fun p => ([.inl p.1.1, .inl p.1.2], .int p.2))
  | [], vs, h => by
    cases h
    exact ⟨[], rfl, .nil⟩
  | q :: l, vs, h => by
    cases h with
    | cons h1 h2 =>
      obtain ⟨ps, rfl, hp⟩ := far_pairs h2
      cases h1 with
      | tup g1 g2 =>
        cases g2 with
        | cons g3 g4 =>
          cases g4 with
          | cons g5 g6 =>
            cases g6
            cases g5
            cases g3 with
            | tup g7 g8 =>
              have := RvL.toInts (ns := [(q.1.1 : Int), q.1.2]) g8
              exact ⟨(_, _) :: ps, rfl, .cons ⟨g1, by rw [g7, this]; rfl⟩ hp⟩
theorem readL_ok : ∀ {zs : List Str} {st st' : RSt} {n : Nat}, readL st n zs = .ok st' → stOk n st → stOk (n + zs.length) st'
  | [], st, st', n, h, hw => by
    cases h
    exact hw
  | z :: zs, st, st', n, h, hw => by
    cases e : takeLine st z with
    | none =>
      rw [show readL st n (z :: zs) = match takeLine st z with | none => Except.error (n + 1) | some st' => readL st' (n + 1) zs from rfl, e] at h
      cases h
    | some s1 =>
      rw [readL_some e] at h
      have := readL_ok h (takeWords_len (show takeWords st (Txt.split z " ") = some s1 from e) hw).1
      rw [List.length_cons, show n + (zs.length + 1) = n + 1 + zs.length by omega]
      exact this
end SL
namespace SK
open PySem PySem.Spec PyProof.Rows L2 SL
section
variable {w : World} {K : PySem.W.Frag} {mg : Str → Option Value} {base : Heap}
abbrev cSt (K : PySem.W.Frag) : Addr := He.ga K "Style"
def txOk (x : Str) : Prop := x.length ≤ 500000 ∧ (Txt.split x "\n").length ≤ 900 ∧ ∀ z ∈ Txt.split x "\n", z.length ≤ 600
def spStyleInit (K : PySem.W.Frag) : Sp := sp2 fun self v H Q E => ∃ s dx, self = .ref s ∧ H s = some (.ins (cSt K) dx []) ∧ (∃ n, Kn H v n) ∧ (isStrV v = false → Rz H E (He.ga K "BadStyle") (.int 0)) ∧
  ∀ x, v = .str x → txOk x ∧ (∀ n, readStyle x = .error n → Rz H E (He.ga K "BadStyle") (.int (n : Nat))) ∧
    (∀ st, readStyle x = .ok st → ∀ H', Os s H H' → SAt (cSt K) (cRow K) H' (.ref s) x st → Q .non H')
abbrev n_Style_init : List Str := ["self", "text", "reader", "rank", "row"]
theorem sc_Style_init : FnScope n_Style_init ["self", "text"] (defScope d_Style_init) := ⟨rfl, rfl, rfl, by decide +kernel, rfl, by decide +kernel, by decide +kernel⟩
theorem ok_Style_init (T : Top w K mg) : Has prg w K mg base (L2.CX prg w) 8 (He.ma K (He.ga K "Style") "__init__") ["self", "text"] (spStyleInit K) := by
  obtain ⟨fd, F⟩ := T.F_Style_init
  obtain ⟨fd_read_style, G_read_style, b_read_style, k_read_style⟩ := ok_read_style (base := base) T
  refine ⟨fd, F.ok (k := 7) sc_Style_init (fun _ _ _ _ h => sp2_len h) (fun cdv A outer s H vs Q E hr h => ?_), F.bindsN (fun _ _ _ _ _ _ us hl => match us, hl with | [_, _], _ => rfl), F.kp⟩
  obtain ⟨v0, v1, rfl, h⟩ := h
  refine ⟨_, (pss_cons (ps_set (i := 2) sc_Style_init.nd rfl (Or.inl rfl) (pe_call G_read_style (hr.mono (by decide)) (by rfl) T.g_read_style k_read_style b_read_style .nil (passes_call (takes_of rfl rfl rfl rfl) (fun _ _ _ _ h => h)) (pa_cons (pv 1) pa_nil)))
    (pss_cons (ps_fld (pv 0) (pv 1) rfl)
    (pss_cons (ps_fld (pv 0) (pe_fld (pv 2) rfl) rfl)
    (pss_cons (ps_fld (pv 0) (pe_callTy call_tuple_of (by rfl) T.b_tuple boot_tuple (pa_cons (pe_fld (pv 2) rfl) pa_nil)) rfl)
    (pss_cons (ps_fld (pv 0) (pe_dc (own := [("rank", 3), ("row", 4)]) (g := gTup K 2 (gCons (gName 3) (gCons (gName 4) gNil))) (by rfl) sc_Style_init.nd (pi_enum (by rfl) T.b_enumerate (pa_cons (pe_fld (pv 2) rfl) pa_nil)) (blkOk_by (N := n_Style_init) (sc := defScope d_Style_init) (own := [("rank", 3), ("row", 4)]) (by decide +kernel)) (fun _ _ _ _ _ => (pg_tup rfl (pgs_cons (pg_name (i := 3) sc_Style_init.nd rfl (Or.inl rfl) (.inr rfl)) (pgs_cons (pg_name (i := 4) sc_Style_init.nd rfl (Or.inl rfl) (.inr rfl)) pgs_nil)))) (fun _ _ _ _ _ => pts_nil) (fun _ _ _ _ _ => (pe_fldK (K := K) rfl (pv 4) rfl)) (fun _ _ _ _ _ => (pv 3))) rfl)
    (pss_cons (ps_fld (pv 0) (pe_callTy call_tuple_of (by rfl) T.b_tuple boot_tuple (pa_cons (pe_fld (pv 2) rfl) pa_nil)) rfl)
    (pss_one (ps_fld (pv 0) (pe_callTy (call_dictT (by rfl) (units2 hr.units)) (by rfl) T.b_dict boot_dict (pa_cons (pe_fld (pv 2) rfl) pa_nil)) rfl)))))))), ?_⟩
  obtain ⟨s0, dx, rfl, hs0, kn, hbad, hx⟩ := h
  refine ⟨_, rfl, _, rfl, kn, hbad, fun x e => ?_⟩
  obtain ⟨⟨hx1, hx2, hx3⟩, herr, hok⟩ := hx x e
  subst e
  refine ⟨hx1, hx2, hx3, herr, fun st hst H1 r dr a1 a2 a3 s1 R1 => ?_⟩
  have hq := hok st hst
  obtain ⟨wf, hrn, hrl⟩ := readStyle_wf hst
  have hle : stOk 1000 st := (readL_ok hrl ⟨Nat.le_refl _, Nat.le_refl _, Nat.le_refl _⟩).mono (by omega)
  have hs1 := s1 _ _ hs0
  refine ⟨_, rfl, _, rfl, s0, _, dx, _, rfl, hs1, T.cl_Style, T.na_Style_own_text, by decide, ?_⟩
  have o2 : Os s0 H (upd H1 s0 (.ins (cSt K) dx (putF "own_text" (.str x) []))) := (Os.of s1).trans Os.upd
  have R2 := R1.os (Sty.nil hs1) (Os.upd (o := .ins (cSt K) dx (putF "own_text" (.str x) [])))
  have hs2 : upd H1 s0 (.ins (cSt K) dx (putF "own_text" (.str x) [])) s0 = some (.ins (cSt K) dx [("own_text", .str x)]) := upd_same
  generalize upd H1 s0 (.ins (cSt K) dx (putF "own_text" (.str x) [])) = H2 at o2 R2 hs2 ⊢
  refine ⟨_, rfl, r, _, dr, _, _, rfl, R2.obj, T.cl_Reader, T.na_Reader_own_last, rfl, _, rfl, s0, _, dx, _, rfl, hs2, T.cl_Style, T.na_Style_own_last, by show 1 < 1000; decide, ?_⟩
  have o3 := o2.trans (Os.upd (o := .ins (cSt K) dx (putF "own_last" (.int st.last) [("own_text", .str x)])))
  have R3 := R2.os (Sty.txt hs2) (Os.upd (o := .ins (cSt K) dx (putF "own_last" (.int st.last) [("own_text", .str x)])))
  have hs3 : upd H2 s0 (.ins (cSt K) dx (putF "own_last" (.int st.last) [("own_text", .str x)])) s0 = some (.ins (cSt K) dx [("own_text", .str x), ("own_last", .int st.last)]) := upd_same
  generalize upd H2 s0 (.ins (cSt K) dx (putF "own_last" (.int st.last) [("own_text", .str x)])) = H3 at o3 R3 hs3 ⊢
  obtain ⟨vs, hv, hR⟩ := R3.rows
  refine ⟨_, rfl, r, _, dr, _, _, rfl, R3.obj, T.cl_Reader, T.na_Reader_own_rows, rfl, a1, _, rfl, .inl ⟨SqL.of hv, fun t1 ht1 => ?_⟩⟩
  have s4 : Same H3 (upd H3 t1 (.tup vs)) := same_new ht1
  have h4t : upd H3 t1 (.tup vs) t1 = some (.tup vs) := upd_same
  have hs4 := s4 _ _ hs3
  have o4 := o3.trans (Os.of s4)
  have R4 := R3.same s4
  have hR4 := hR.same s4
  generalize upd H3 t1 (.tup vs) = H4 at h4t hs4 o4 R4 hR4 ⊢
  refine ⟨_, rfl, s0, _, dx, _, rfl, hs4, T.cl_Style, T.na_Style_own_rows, by show 2 < 1000; decide, ?_⟩
  have u5 : Os s0 H4 (upd H4 s0 (.ins (cSt K) dx (putF "own_rows" (.ref t1) [("own_text", .str x), ("own_last", .int st.last)]))) := Os.upd
  have o5 := o4.trans u5
  have R5 := R4.os (Sty.txt hs4) u5
  have hR5 := hR4.os (Sty.txt hs4) u5
  have h5t := (Sty.txt hs4).tk u5 _ _ h4t
  have hs5 : upd H4 s0 (.ins (cSt K) dx (putF "own_rows" (.ref t1) [("own_text", .str x), ("own_last", .int st.last)])) s0 = some (.ins (cSt K) dx [("own_text", .str x), ("own_last", .int st.last), ("own_rows", .ref t1)]) := upd_same
  generalize upd H4 s0 (.ins (cSt K) dx (putF "own_rows" (.ref t1) [("own_text", .str x), ("own_last", .int st.last)])) = H5 at o5 R5 hR5 h5t hs5 ⊢
  obtain ⟨vs', hv5, hR5'⟩ := R5.rows
  have hln : (names st).length = st.rows.length := by simp [names]
  have hlen5 := hR5'.len
  refine ⟨_, rfl, r, _, dr, _, _, rfl, R5.obj, T.cl_Reader, T.na_Reader_own_rows, rfl, a1, _, rfl, SqL.of hv5, fun D hD => ?_⟩
  refine dc_it (walk_enum (K := K) (a := a1) (xs := vs')) (fun i H' => Same H5 H' ∧ ∃ kvs, H' D = some (.dK kvs) ∧ kvs.length ≤ i ∧ ∀ z, valV kvs (.inr z) = if z ∈ (names st).take i then some (.int ((names st).idxOf z : Nat)) else none)
    ⟨same_new hD, [], upd_same, Nat.le_refl _, fun z => by simp [valV]⟩ (fun i H' _ p => SqL.of (p.1 _ _ hv5)) ?_ ?_
  · rintro i y H6 H7 hi ⟨s6, kvs, hk, hkl, hval⟩ ⟨Tt, x1, y1, rfl, hT, rfl, e1, e2⟩
    cases e1
    obtain ⟨row, hrow, hra⟩ := hR5'.get (show vs'[i]? = some y1 from e2)
    have s7 : Same H6 (upd H6 Tt (.tup [V.int i, y1])) := same_new hT
    obtain ⟨c, dc, tt1, tt2, rfl, hc, _, _⟩ := hra.same (s6.trans s7)
    refine ⟨Tt, _, rfl, SqT.of upd_same, rfl, _, _, rfl, _, _, rfl, rfl, rfl, ?_⟩
    refine ⟨_, rfl, c, _, dc, _, _, rfl, hc, T.cl_ClassRow, T.na_ClassRow_own_name, rfl, _, rfl, kvs, .inr row.name, rfl, s7 _ _ hk, ?_, ?_⟩
    · have : i < 1001 := by
        rw [hlen5] at hi
        have := hle.1
        omega
      exact Nat.lt_of_le_of_lt hkl (Nat.lt_trans this (by decide))
    · have hnm : (names st)[i]? = some row.name := by
        show (st.rows.map (·.name))[i]? = _
        rw [List.getElem?_map, hrow]
        rfl
      refine ⟨fun b o hb => ?_, _, upd_same, Nat.le_trans (putK_len _ _ _) (by omega), fun z => ?_⟩
      · rw [upd_ne (ne_of_none hb hD)]
        exact s7 _ _ (s6 _ _ hb)
      · rw [valV_put]
        have htk : (names st).take (i + 1) = (names st).take i ++ [row.name] := by
          rw [List.take_succ, hnm]
          rfl
        rw [htk, hval]
        by_cases hz : z = row.name
        · subst hz
          rw [if_pos rfl, if_pos (by simp), idx_nd wf.nd hnm]
        · rw [if_neg (fun e => hz (Sum.inr.inj e))]
          simp [hz]
  intro H6 ⟨s6, kvs, hk, hkl, hval⟩
  rw [hlen5, ← hln, List.take_length] at hval
  have hs6 := s6 _ _ hs5
  refine ⟨_, rfl, s0, _, dx, _, rfl, hs6, T.cl_Style, T.na_Style_own_ranks, by show 3 < 1000; decide, ?_⟩
  have u7 : Os s0 H6 (upd H6 s0 (.ins (cSt K) dx (putF "own_ranks" (.ref D) [("own_text", .str x), ("own_last", .int st.last), ("own_rows", .ref t1)]))) := Os.upd
  have o7 := (o5.trans (Os.of s6)).trans u7
  have R7 := (R5.same s6).os (Sty.txt hs6) u7
  have hR7 := (hR5.same s6).os (Sty.txt hs6) u7
  have h7t := (Sty.txt hs6).tk u7 _ _ (s6 _ _ h5t)
  have nD : D ≠ s0 := fun e => by rw [e, hs6] at hk; cases hk
  have h7k := u7 _ _ nD hk
  have hs7 : upd H6 s0 (.ins (cSt K) dx (putF "own_ranks" (.ref D) [("own_text", .str x), ("own_last", .int st.last), ("own_rows", .ref t1)])) s0 = some (.ins (cSt K) dx [("own_text", .str x), ("own_last", .int st.last), ("own_rows", .ref t1), ("own_ranks", .ref D)]) := upd_same
  generalize upd H6 s0 (.ins (cSt K) dx (putF "own_ranks" (.ref D) [("own_text", .str x), ("own_last", .int st.last), ("own_rows", .ref t1)])) = H7 at o7 R7 hR7 h7t h7k hs7 ⊢
  obtain ⟨bs, hb7, hB7⟩ := R7.beside
  refine ⟨_, rfl, r, _, dr, _, _, rfl, R7.obj, T.cl_Reader, T.na_Reader_own_beside, rfl, a2, _, rfl, .inl ⟨SqL.of hb7, fun t3 ht3 => ?_⟩⟩
  have s8 : Same H7 (upd H7 t3 (.tup bs)) := same_new ht3
  have h8b : upd H7 t3 (.tup bs) t3 = some (.tup bs) := upd_same
  have hs8 := s8 _ _ hs7
  have o8 := o7.trans (Os.of s8)
  have R8 := R7.same s8
  have hR8 := hR7.same s8
  have h8t := s8 _ _ h7t
  have h8k := s8 _ _ h7k
  have hB8 := hB7.same s8
  generalize upd H7 t3 (.tup bs) = H8 at h8b hs8 o8 R8 hR8 h8t h8k hB8 ⊢
  refine ⟨_, rfl, s0, _, dx, _, rfl, hs8, T.cl_Style, T.na_Style_own_beside, by show 4 < 1000; decide, ?_⟩
  have u9 : Os s0 H8 (upd H8 s0 (.ins (cSt K) dx (putF "own_beside" (.ref t3) [("own_text", .str x), ("own_last", .int st.last), ("own_rows", .ref t1), ("own_ranks", .ref D)]))) := Os.upd
  have o9 := o8.trans u9
  have R9 := R8.os (Sty.txt hs8) u9
  have hR9 := hR8.os (Sty.txt hs8) u9
  have h9t := (Sty.txt hs8).tk u9 _ _ h8t
  have h9b := (Sty.txt hs8).tk u9 _ _ h8b
  have h9k := u9 _ _ nD h8k
  have hB9 := hB8.tk ((Sty.txt hs8).tk u9) (pairD_fz _)
  have hs9 : upd H8 s0 (.ins (cSt K) dx (putF "own_beside" (.ref t3) [("own_text", .str x), ("own_last", .int st.last), ("own_rows", .ref t1), ("own_ranks", .ref D)])) s0 = some (.ins (cSt K) dx [("own_text", .str x), ("own_last", .int st.last), ("own_rows", .ref t1), ("own_ranks", .ref D), ("own_beside", .ref t3)]) := upd_same
  generalize upd H8 s0 (.ins (cSt K) dx (putF "own_beside" (.ref t3) [("own_text", .str x), ("own_last", .int st.last), ("own_rows", .ref t1), ("own_ranks", .ref D)])) = H9 at o9 R9 hR9 h9t h9b h9k hB9 hs9 ⊢
  obtain ⟨fs, hf9, hF9⟩ := R9.far
  obtain ⟨ps, hps, hpp⟩ := far_pairs hF9
  subst hps
  refine ⟨_, rfl, r, _, dr, _, _, rfl, R9.obj, T.cl_Reader, T.na_Reader_own_far, rfl, a3, ps, _, rfl, SqL.of hf9, hpp.mono (fun p kv h => ⟨SqT.of h.1, h.2⟩), ?_, fun t4 ht4 => ?_⟩
  · rw [List.map_map]
    have : ((fun x : List Key × V => x.1) ∘ fun p : (Nat × Nat) × Int => (([.inl p.1.1, .inl p.1.2] : List Key), V.int p.2)) = (fun q : Nat × Nat => ([.inl q.1, .inl q.2] : List Key)) ∘ fun p : (Nat × Nat) × Int => p.1 := rfl
    rw [this, ← List.map_map]
    refine (wf.fa.nodup).map _ fun a b hab e => hab ?_
    have e1 := (List.cons.inj e).1
    have e2 := (List.cons.inj (List.cons.inj e).2).1
    have e1 := Sum.inl.inj e1
    have e2 := Sum.inl.inj e2
    exact Prod.ext (by omega) (by omega)
  · have s10 := same_new (o := .dT (st.far.map fun p => (([.inl p.1.1, .inl p.1.2] : List Key), V.int p.2))) ht4
    have hs10 := s10 _ _ hs9
    refine ⟨_, rfl, s0, _, dx, _, rfl, hs10, T.cl_Style, T.na_Style_own_far, by show 5 < 1000; decide, ?_⟩
    have u11 := Os.upd (s := s0) (H := upd H9 t4 (.dT (st.far.map fun p => (([.inl p.1.1, .inl p.1.2] : List Key), V.int p.2)))) (o := .ins (cSt K) dx (putF "own_far" (.ref t4) [("own_text", .str x), ("own_last", .int st.last), ("own_rows", .ref t1), ("own_ranks", .ref D), ("own_beside", .ref t3)]))
    have n4 : t4 ≠ s0 := fun e => by rw [e, hs9] at ht4; cases ht4
    refine hq _ ((o9.trans (Os.of s10)).trans u11) ⟨⟨s0, dx, t1, D, t3, t4, vs, kvs, bs, rfl, upd_same, (Sty.txt hs10).tk u11 _ _ (s10 _ _ h9t), (hR9.same s10).os (Sty.txt hs10) u11, u11 _ _ nD (s10 _ _ h9k), hval, (Sty.txt hs10).tk u11 _ _ (s10 _ _ h9b), (hB9.same s10).tk ((Sty.txt hs10).tk u11) (pairD_fz _), u11 _ _ n4 upd_same⟩, wf, hle⟩
end
end SK

set_option maxHeartbeats 4000000
namespace SL
open PySem PySem.Spec PyProof.Rows L2 TL
def rNotInT (K : PySem.W.Frag) : R2 := fun x y H Q => ∃ d ds, Dp K H x d ∧ Dp K H y (.tuple ds) ∧ SeqAt.shaped d = true ∧ SeqAt.shaped (.tuple ds) = true ∧ Q (.bl (!ds.any fun z => PyData.eqv z d)) H
def rInT (K : PySem.W.Frag) : R2 := fun x y H Q => ∃ d ds, Dp K H x d ∧ Dp K H y (.tuple ds) ∧ SeqAt.shaped d = true ∧ SeqAt.shaped (.tuple ds) = true ∧ Q (.bl (ds.any fun z => PyData.eqv z d)) H
theorem op_notInT {X : Cx} {k : Nat} (hr : Room k X.A) : OpR X (compareOp .NotIn) (rNotInT X.K) := by
  intro pins s σ H x y v u Q I rx ry h
  obtain ⟨d, ds, hd, he, sd, se, q⟩ := h
  obtain ⟨as, r1⟩ := Dp.reads I d x v hd rx
  obtain ⟨bs, r2⟩ := Dp.reads I (.tuple ds) y u he ry
  have se' : PyData.canLayAll0 ds = true := by
    have := SeqAt.canLay_of_shaped se
    simpa only [PyData.canLay0] using this
  exact SeqAt.notIn_tuple_reads r2 r1 se' (SeqAt.canLay_of_shaped sd) (room_in_shaped sd (by have := hr.un; omega)) ⟨.bl _, H, I, rfl, q⟩
theorem op_inT {X : Cx} {k : Nat} (hr : Room k X.A) : OpR X (compareOp .In) (rInT X.K) := by
  intro pins s σ H x y v u Q I rx ry h
  obtain ⟨d, ds, hd, he, sd, se, q⟩ := h
  obtain ⟨as, r1⟩ := Dp.reads I d x v hd rx
  obtain ⟨bs, r2⟩ := Dp.reads I (.tuple ds) y u he ry
  have se' : PyData.canLayAll0 ds = true := by
    have := SeqAt.canLay_of_shaped se
    simpa only [PyData.canLay0] using this
  exact SeqAt.in_tuple_reads r2 r1 se' (SeqAt.canLay_of_shaped sd) (room_in_shaped sd (by have := hr.un; omega)) ⟨.bl _, H, I, rfl, q⟩
mutual
theorem Rv.dp {K : PySem.W.Frag} {H : Hp} : ∀ {v : V} {d : PyData}, Rv H v d → fz d = true → Dp K H v d
  | _, _, .non, _ => .non
  | _, _, .bl b, _ => .bl b
  | _, _, .int i, _ => .int i
  | _, _, .str x, _ => .str x
  | _, _, .lst h r, f => by simp [fz] at f
  | _, _, .tup h r, f => .tup (SqT.of h) (RvL.dp r (by simpa [fz] using f))
  | _, _, .dK h k r, f => by simp [fz] at f
theorem RvL.dp {K : PySem.W.Frag} {H : Hp} : ∀ {vs : List V} {ds : List PyData}, RvL H vs ds → fzAll ds = true → DpAll K H vs ds
  | _, _, .nil, _ => .nil
  | _, _, .cons h r, f => by
    simp only [fzAll, Bool.and_eq_true] at f
    exact .cons (Rv.dp h f.1) (RvL.dp r f.2)
end
theorem pairD_eqv (p q : Nat × Nat) : PyData.eqv (pairD p) (pairD q) = decide (p = q) := by
  obtain ⟨a, b⟩ := p
  obtain ⟨c, d⟩ := q
  simp only [pairD, PyData.eqv, PyData.eqvAll, Bool.and_true]
  by_cases h1 : a = c <;> by_cases h2 : b = d <;> simp [h1, h2] <;> omega
theorem pairD_any (l : List (Nat × Nat)) (q : Nat × Nat) : ((l.map pairD).any fun z => PyData.eqv z (pairD q)) = decide (q ∈ l) := by
  rw [List.any_map]
  induction l with
  | nil => simp
  | cons p l ih =>
    rw [List.any_cons, ih]
    show (PyData.eqv (pairD p) (pairD q) || _) = _
    rw [pairD_eqv]
    by_cases h : p = q
    · subst h
      simp
    · simp [h, Ne.symm h]
theorem pairD_shp (p : Nat × Nat) : Shp 1 (pairD p) := Shp.tup (m := 0) fun d hd => by
  simp only [List.mem_cons, List.not_mem_nil, or_false] at hd
  rcases hd with rfl | rfl <;> exact Shp.int _
theorem pairDs_shaped (l : List (Nat × Nat)) : SeqAt.shaped (.tuple (l.map pairD)) = true := (Shp.tup (m := 1) fun d hd => by
  obtain ⟨p, _, rfl⟩ := List.mem_map.mp hd
  exact pairD_shp p).shaped (by decide)
/-- where a value is a class's name -/
def nameIn (st : RSt) (v : V) : Option Nat := match v with
  | .str z => if z ∈ names st then some ((names st).idxOf z) else none
  | _ => none
theorem nameIn_lt {st : RSt} {v : V} {i : Nat} (h : nameIn st v = some i) : i < st.rows.length := by
  unfold nameIn at h
  split at h
  · split at h
    · rename_i z hz
      have := Option.some.inj h
      subst this
      have := List.idxOf_lt_length_of_mem hz
      simpa [names] using this
    · cases h
  · cases h
def rankP (i j : Nat) : Nat × Nat := if i ≤ j then (i, j) else (j, i)
def farOf (st : RSt) (p : Nat × Nat) : Int := ((st.far.find? fun q => decide (q.1 = p)).map (·.2)).getD 0
theorem far_val (l : List ((Nat × Nat) × Int)) (p : Nat × Nat) : valV (l.map fun q => (([.inl q.1.1, .inl q.1.2] : List Key), V.int q.2)) [.inl p.1, .inl p.2] = ((l.find? fun q => decide (q.1 = p)).map fun q => V.int q.2) := by
  induction l with
  | nil => rfl
  | cons q l ih =>
    rw [List.map_cons]
    by_cases h : q.1 = p
    · subst h
      rw [valV_pos rfl, List.find?_cons_of_pos (by simp)]
      rfl
    · rw [valV_neg (fun e => h (by
        have e1 := Sum.inl.inj (List.cons.inj e).1
        have e2 := Sum.inl.inj (List.cons.inj (List.cons.inj e).2).1
        exact Prod.ext (by omega) (by omega))), ih, List.find?_cons_of_neg (by simpa using h)]
end SL
namespace SK
open PySem PySem.Spec PyProof.Rows L2 SL
section
variable {w : World} {K : PySem.W.Frag} {mg : Str → Option Value} {base : Heap}
abbrev StAt (K : PySem.W.Frag) (H : Hp) (v : V) (x : Str) (st : RSt) : Prop := SAt (cSt K) (cRow K) H v x st
def spRankPair : Sp := sp2 fun a b H Q _ => ∃ i j : Nat, a = .int i ∧ b = .int j ∧ ∀ H' t, Same H H' → H' t = some (.tup [.int (rankP i j).1, .int (rankP i j).2]) → Q (.ref t) H'
abbrev n_rank_pair : List Str := ["one", "other"]
theorem sc_rank_pair : FnScope n_rank_pair ["one", "other"] (defScope d_rank_pair) := ⟨rfl, rfl, rfl, by decide +kernel, rfl, by decide +kernel, by decide +kernel⟩
theorem ok_rank_pair (T : Top w K mg) : Has prg w K mg base CX0 1 (He.ga K "rank_pair") ["one", "other"] spRankPair := by
  obtain ⟨fd, F⟩ := T.F_rank_pair
  refine ⟨fd, F.ok (k := 0) sc_rank_pair (fun _ _ _ _ h => sp2_len h) (fun cdv A outer s H vs Q E hr h => ?_), F.bindsN (fun _ _ _ _ _ _ us hl => match us, hl with | [_, _], _ => rfl), F.kp⟩
  obtain ⟨v0, v1, rfl, h⟩ := h
  refine ⟨_, PSs.nox (pss_one (ps_ret (pe_ifExp (pt_cmpR op_le (pv 0) (pv 1) (nomark _)) (pe_tup (pa_cons (pv 0) (pa_cons (pv 1) pa_nil))) (pe_tup (pa_cons (pv 1) (pa_cons (pv 0) pa_nil)))))), ?_⟩
  obtain ⟨i, j, rfl, rfl, q⟩ := h
  refine ⟨_, rfl, _, rfl, _, _, rfl, rfl, _, rfl, ?_⟩
  by_cases hle : i ≤ j
  · rw [decide_eq_true (show (i : Int) ≤ j by omega)]
    refine ⟨_, rfl, _, rfl, (by show 2 ≤ sizeLine; decide), fun t ht => q _ t (same_new ht) ?_⟩
    rw [upd_same, show rankP i j = (i, j) from if_pos hle]
  · rw [decide_eq_false (show ¬ (i : Int) ≤ j by omega)]
    refine ⟨_, rfl, _, rfl, (by show 2 ≤ sizeLine; decide), fun t ht => q _ t (same_new ht) ?_⟩
    rw [upd_same, show rankP i j = (j, i) from if_neg hle]
def spCheck (K : PySem.W.Frag) : Sp := sp2 fun self v H Q E => ∃ x st, StAt K H self x st ∧ (∃ n, Kn H v n) ∧ (betw v 0 st.last = true → Q .non H) ∧ (betw v 0 st.last = false → Rz H E (He.ga K "BadZoom") v)
abbrev n_Style_check_zoom : List Str := ["self", "value"]
theorem sc_Style_check_zoom : FnScope n_Style_check_zoom ["self", "value"] (defScope d_Style_check_zoom) := ⟨rfl, rfl, rfl, by decide +kernel, rfl, by decide +kernel, by decide +kernel⟩
theorem ok_Style_check_zoom (T : Top w K mg) : Has prg w K mg base (L2.CX prg w) 3 (He.ma K (He.ga K "Style") "check_zoom") ["self", "value"] (spCheck K) := by
  obtain ⟨fd, F⟩ := T.F_Style_check_zoom
  obtain ⟨fd_is_between, G_is_between, b_is_between, k_is_between⟩ := ok_is_between (base := base) T
  refine ⟨fd, F.ok (k := 2) sc_Style_check_zoom (fun _ _ _ _ h => sp2_len h) (fun cdv A outer s H vs Q E hr h => ?_), F.bindsN (fun _ _ _ _ _ _ us hl => match us, hl with | [_, _], _ => rfl), F.kp⟩
  obtain ⟨v0, v1, rfl, h⟩ := h
  refine ⟨_, (pss_one (ps_if (pt_not (pt_val (pe_call G_is_between (hr.mono (by decide)) (by rfl) T.g_is_between k_is_between b_is_between .nil pass0 (pa_cons (pv 1) (pa_cons pe_int (pa_cons (pe_fld (pv 0) rfl) pa_nil)))))) (pss_one (ps_raiseE T.ini T.b_super T.er_BadZoom (hr.mono (by decide)) (by rfl) T.g_BadZoom (by rfl) (takes_of rfl rfl rfl rfl) (pv 1))) pss_nil)), ?_⟩
  obtain ⟨x, st, S, kn, q, qe⟩ := h
  obtain ⟨⟨s0, dx, a1, a2, a3, a4, vs, kvs, ws, rfl, h1, h2, h3, h4, h5, h6, h7, h8⟩, wf, le⟩ := S
  refine ⟨_, rfl, _, rfl, s0, _, dx, _, _, rfl, h1, T.cl_Style, T.na_Style_own_last, rfl, _, _, _, rfl, 0, st.last, rfl, rfl, kn, _, rfl, ?_⟩
  cases hb : betw v1 0 st.last with
  | true => exact q hb
  | false => exact ⟨_, rfl, Rz.fin T.er_BadZoom (qe hb)⟩
def spRank (K : PySem.W.Frag) : Sp := sp2 fun self v H Q E => ∃ x st, StAt K H self x st ∧ (∃ n, Kn H v n) ∧ (∀ i, nameIn st v = some i → Q (.int (i : Nat)) H) ∧ (nameIn st v = none → Rz H E (He.ga K "NoClass") v)
abbrev n_Style_rank_of : List Str := ["self", "value"]
theorem sc_Style_rank_of : FnScope n_Style_rank_of ["self", "value"] (defScope d_Style_rank_of) := ⟨rfl, rfl, rfl, by decide +kernel, rfl, by decide +kernel, by decide +kernel⟩
theorem ok_Style_rank_of (T : Top w K mg) : Has prg w K mg base (L2.CX prg w) 3 (He.ma K (He.ga K "Style") "rank_of") ["self", "value"] (spRank K) := by
  obtain ⟨fd, F⟩ := T.F_Style_rank_of
  refine ⟨fd, F.ok (k := 2) sc_Style_rank_of (fun _ _ _ _ h => sp2_len h) (fun cdv A outer s H vs Q E hr h => ?_), F.bindsN (fun _ _ _ _ _ _ us hl => match us, hl with | [_, _], _ => rfl), F.kp⟩
  obtain ⟨v0, v1, rfl, h⟩ := h
  refine ⟨_, (pss_cons (ps_if (PW.pt (pw_or (pt_not (pt_val (pe_callB call_isi (by rfl) T.b_isinstance (by decide +kernel) (pa_cons (pv 1) (pa_cons (pe_bltn (v := .ty "str") (by rfl) T.b_str (by decide +kernel) rfl) pa_nil))))) (pw_or1 (pt_cmp (pc_dnotin (hu_of hr) (pv 1) (pe_fld (pv 0) rfl)))))) (pss_one (ps_raiseE T.ini T.b_super T.er_NoClass (hr.mono (by decide)) (by rfl) T.g_NoClass (by rfl) (takes_of rfl rfl rfl rfl) (pv 1))) pss_nil)
    (pss_one (ps_ret (pe_dget (hu_of hr) (pe_fld (pv 0) rfl) (pv 1) (fun _ _ => rfl))))), ?_⟩
  obtain ⟨x, st, S, ⟨n, kn⟩, q, qe⟩ := h
  obtain ⟨⟨s0, dx, a1, a2, a3, a4, vs, kvs, ws, rfl, h1, h2, h3, h4, h5, h6, h7, h8⟩, wf, le⟩ := S
  refine ⟨_, rfl, _, _, _, _, _, rfl, .ty _, kn.tyx, kn.kStr, _, rfl, ?_⟩
  cases hv : isStrV v1 with
  | false =>
    refine ⟨_, rfl, Rz.fin T.er_NoClass (qe ?_)⟩
    cases v1 <;> first | rfl | cases hv
  | true =>
    obtain ⟨z, rfl⟩ : ∃ z, v1 = .str z := by
      cases v1 <;> first | exact ⟨_, rfl⟩ | cases hv
    refine ⟨_, rfl, _, rfl, s0, _, dx, _, _, rfl, h1, T.cl_Style, T.na_Style_own_ranks, rfl, a2, _, rfl, DGet.k (k := Sum.inr z) h4, _, rfl, ?_⟩
    rw [h5]
    by_cases hz : z ∈ names st
    · rw [if_pos hz]
      refine ⟨_, rfl, s0, _, dx, _, _, rfl, h1, T.cl_Style, T.na_Style_own_ranks, rfl, _, rfl, a2, .int ((names st).idxOf z : Nat), rfl, ?_, q _ (if_pos hz)⟩
      have := DGet.k (k := Sum.inr z) h4
      rw [h5, if_pos hz] at this
      exact this
    · rw [if_neg hz]
      exact ⟨_, rfl, Rz.fin T.er_NoClass (qe (if_neg hz))⟩
def spDoC (K : PySem.W.Frag) : Sp := sp3 fun self a b H Q _ => ∃ x st, ∃ i j : Nat, StAt K H self x st ∧ a = .int i ∧ b = .int j ∧ ∀ H', Same H H' → Q (.bl (decide (rankP i j ∉ st.beside))) H'
def spDist (K : PySem.W.Frag) : Sp := sp3 fun self a b H Q _ => ∃ x st, ∃ i j : Nat, StAt K H self x st ∧ a = .int i ∧ b = .int j ∧ ∀ H', Same H H' → Q (.int (farOf st (rankP i j))) H'
abbrev n_Style_distance : List Str := ["self", "one", "other"]
theorem sc_Style_distance : FnScope n_Style_distance ["self", "one", "other"] (defScope d_Style_distance) := ⟨rfl, rfl, rfl, by decide +kernel, rfl, by decide +kernel, by decide +kernel⟩
theorem ok_Style_distance (T : Top w K mg) : Has prg w K mg base CX0 2 (He.ma K (He.ga K "Style") "distance") ["self", "one", "other"] (spDist K) := by
  obtain ⟨fd, F⟩ := T.F_Style_distance
  obtain ⟨fd_rank_pair, G_rank_pair, b_rank_pair, k_rank_pair⟩ := ok_rank_pair (base := base) T
  refine ⟨fd, F.ok (k := 1) sc_Style_distance (fun _ _ _ _ h => sp3_len h) (fun cdv A outer s H vs Q E hr h => ?_), F.bindsN (fun _ _ _ _ _ _ us hl => match us, hl with | [_, _, _], _ => rfl), F.kp⟩
  obtain ⟨v0, v1, v2, rfl, h⟩ := h
  refine ⟨_, PSs.nox (pss_one (ps_ret (pe_dget2 (hu_of hr) (pe_fld (pv 0) rfl) (pe_call G_rank_pair (hr.mono (by decide)) (by rfl) T.g_rank_pair k_rank_pair b_rank_pair .nil pass0 (pa_cons (pv 1) (pa_cons (pv 2) pa_nil))) pe_int ⟨rfl, rfl, rfl, rfl⟩))), ?_⟩
  obtain ⟨x, st, i, j, S, rfl, rfl, q⟩ := h
  obtain ⟨⟨s0, dx, a1, a2, a3, a4, vs, kvs, ws, rfl, h1, h2, h3, h4, h5, h6, h7, h8⟩, wf, le⟩ := id S
  refine ⟨_, rfl, s0, _, dx, _, _, rfl, h1, T.cl_Style, T.na_Style_own_far, rfl, a4, rfl, .inr ⟨_, .inl h8⟩, _, rfl, _, rfl, _, _, rfl, i, j, rfl, rfl, fun H1 t s1 ht => ?_⟩
  refine ⟨_, DGet.t (k := [.inl (rankP i j).1, .inl (rankP i j).2]) (s1 _ _ h8) ht, ?_⟩
  rw [far_val]
  have e : ((st.far.find? fun q => decide (q.1 = rankP i j)).map fun q => V.int q.2).getD (V.int 0) = V.int (farOf st (rankP i j)) := by
    unfold farOf
    cases st.far.find? fun q => decide (q.1 = rankP i j) <;> rfl
  rw [e]
  exact q _ s1
def notZoom (st : RSt) (v : V) : Prop := betw v 0 st.last = false
def spSize (K : PySem.W.Frag) : Sp := sp3 fun self a z H Q E => ∃ x st, StAt K H self x st ∧ (∃ n, Kn H a n) ∧ (∃ n, Kn H z n) ∧ (nameIn st a = none → Rz H E (He.ga K "NoClass") a) ∧
  (∀ i, nameIn st a = some i → betw z 0 st.last = false → Rz H E (He.ga K "BadZoom") z) ∧ ∀ i n r, nameIn st a = some i → z = .int n → betw z 0 st.last = true → st.rows[i]? = some r → Q (.int (sizeAt r n)) H
abbrev n_Style_size : List Str := ["self", "name", "zoom", "rank"]
theorem sc_Style_size : FnScope n_Style_size ["self", "name", "zoom"] (defScope d_Style_size) := ⟨rfl, rfl, rfl, by decide +kernel, rfl, by decide +kernel, by decide +kernel⟩
theorem ok_Style_size (T : Top w K mg) : Has prg w K mg base (L2.CX prg w) 4 (He.ma K (He.ga K "Style") "size") ["self", "name", "zoom"] (spSize K) := by
  obtain ⟨fd, F⟩ := T.F_Style_size
  obtain ⟨fd_Style_rank_of, G_Style_rank_of, b_Style_rank_of, k_Style_rank_of⟩ := ok_Style_rank_of (base := base) T
  obtain ⟨fd_Style_check_zoom, G_Style_check_zoom, b_Style_check_zoom, k_Style_check_zoom⟩ := ok_Style_check_zoom (base := base) T
  obtain ⟨fd_ClassRow_size_at, G_ClassRow_size_at, b_ClassRow_size_at, k_ClassRow_size_at⟩ := ok_ClassRow_size_at (base := base) T
  refine ⟨fd, F.ok (k := 3) sc_Style_size (fun _ _ _ _ h => sp3_len h) (fun cdv A outer s H vs Q E hr h => ?_), F.bindsN (fun _ _ _ _ _ _ us hl => match us, hl with | [_, _, _], _ => rfl), F.kp⟩
  obtain ⟨v0, v1, v2, rfl, h⟩ := h
  refine ⟨_, (pss_cons (ps_set (i := 3) sc_Style_size.nd rfl (Or.inl rfl) (pe_meth (pv 0) T.cl_Style T.m_Style_rank_of G_Style_rank_of (hr.mono (by decide)) b_Style_rank_of .nil (passes_call (takes_of rfl rfl rfl rfl) (fun _ _ _ _ h => h)) (pa_cons (pv 1) pa_nil)))
    (pss_cons (ps_expr (pe_meth (pv 0) T.cl_Style T.m_Style_check_zoom G_Style_check_zoom (hr.mono (by decide)) b_Style_check_zoom .nil (passes_call (takes_of rfl rfl rfl rfl) (fun _ _ _ _ h => h)) (pa_cons (pv 2) pa_nil)))
    (pss_one (ps_ret (pe_meth (pe_ix ix_tup (pe_fld (pv 0) rfl) (pv 3) (fun _ _ => rfl)) T.cl_ClassRow T.m_ClassRow_size_at G_ClassRow_size_at (hr.mono (by decide)) b_ClassRow_size_at .nil pass0 (pa_cons (pv 2) pa_nil)))))), ?_⟩
  obtain ⟨x, st, S, k1, k2, q1, q2, q3⟩ := h
  obtain ⟨⟨s0, dx, a1, a2, a3, a4, vs, kvs, ws, rfl, h1, h2, h3, h4, h5, h6, h7, h8⟩, wf, le⟩ := id S
  refine ⟨_, rfl, s0, dx, _, rfl, h1, rfl, _, rfl, _, _, rfl, x, st, S, k1, fun i hi => ?_, q1⟩
  refine ⟨_, rfl, s0, dx, _, rfl, h1, rfl, _, rfl, _, _, rfl, x, st, S, k2, fun hb => ?_, fun hb => q2 i hi hb⟩
  obtain ⟨n, rfl⟩ : ∃ n, v2 = .int n := by
    cases v2 <;> first | exact ⟨_, rfl⟩ | cases hb
  have hlt := nameIn_lt hi
  have hr1 : st.rows[i]? = some st.rows[i] := List.getElem?_eq_getElem hlt
  obtain ⟨v, hv⟩ : ∃ v, vs[i]? = some v := ⟨_, List.getElem?_eq_getElem (by rw [h3.len]; exact hlt)⟩
  obtain ⟨r, hr2, hra⟩ := h3.get hv
  rw [hr1] at hr2
  have hr2 := Option.some.inj hr2
  subst hr2
  obtain ⟨c, dc, t1, t2, rfl, hc, ht1, ht2⟩ := id hra
  refine ⟨_, rfl, s0, _, dx, _, _, rfl, h1, T.cl_Style, T.na_Style_own_rows, rfl, _, rfl, a1, _, _, _, rfl, rfl, SqT.of h2, atI_nat hv, c, dc, _, rfl, hc, rfl, _, rfl, _, _, rfl, _, n, hra, rfl, q3 i n _ hi rfl hb hr1⟩
def spLetters (K : PySem.W.Frag) : Sp := sp2 fun self a H Q E => ∃ x st, StAt K H self x st ∧ (∃ n, Kn H a n) ∧ (nameIn st a = none → Rz H E (He.ga K "NoClass") a) ∧
  ∀ i r t, nameIn st a = some i → st.rows[i]? = some r → H t = some (.tup [.int r.least, .int r.most]) → Q (.ref t) H
abbrev n_Style_letters : List Str := ["self", "name"]
theorem sc_Style_letters : FnScope n_Style_letters ["self", "name"] (defScope d_Style_letters) := ⟨rfl, rfl, rfl, by decide +kernel, rfl, by decide +kernel, by decide +kernel⟩
theorem ok_Style_letters (T : Top w K mg) : Has prg w K mg base (L2.CX prg w) 4 (He.ma K (He.ga K "Style") "letters") ["self", "name"] (spLetters K) := by
  obtain ⟨fd, F⟩ := T.F_Style_letters
  obtain ⟨fd_Style_rank_of, G_Style_rank_of, b_Style_rank_of, k_Style_rank_of⟩ := ok_Style_rank_of (base := base) T
  refine ⟨fd, F.ok (k := 3) sc_Style_letters (fun _ _ _ _ h => sp2_len h) (fun cdv A outer s H vs Q E hr h => ?_), F.bindsN (fun _ _ _ _ _ _ us hl => match us, hl with | [_, _], _ => rfl), F.kp⟩
  obtain ⟨v0, v1, rfl, h⟩ := h
  refine ⟨_, (pss_one (ps_ret (pe_fld (pe_ix ix_tup (pe_fld (pv 0) rfl) (pe_meth (pv 0) T.cl_Style T.m_Style_rank_of G_Style_rank_of (hr.mono (by decide)) b_Style_rank_of .nil (passes_call (takes_of rfl rfl rfl rfl) (fun _ _ _ _ h => h)) (pa_cons (pv 1) pa_nil)) (fun _ _ => rfl)) rfl))), ?_⟩
  obtain ⟨x, st, S, k1, q1, q3⟩ := h
  obtain ⟨⟨s0, dx, a1, a2, a3, a4, vs, kvs, ws, rfl, h1, h2, h3, h4, h5, h6, h7, h8⟩, wf, le⟩ := id S
  refine ⟨_, rfl, s0, _, dx, _, _, rfl, h1, T.cl_Style, T.na_Style_own_rows, rfl, _, rfl, s0, dx, _, rfl, h1, rfl, _, rfl, _, _, rfl, x, st, S, k1, fun i hi => ?_, q1⟩
  have hlt := nameIn_lt hi
  have hr1 : st.rows[i]? = some st.rows[i] := List.getElem?_eq_getElem hlt
  obtain ⟨v, hv⟩ : ∃ v, vs[i]? = some v := ⟨_, List.getElem?_eq_getElem (by rw [h3.len]; exact hlt)⟩
  obtain ⟨r, hr2, hra⟩ := h3.get hv
  rw [hr1] at hr2
  have hr2 := Option.some.inj hr2
  subst hr2
  obtain ⟨c, dc, t1, t2, rfl, hc, ht1, ht2⟩ := hra
  exact ⟨a1, _, _, _, rfl, rfl, SqT.of h2, atI_nat hv, c, _, dc, _, _, rfl, hc, T.cl_ClassRow, T.na_ClassRow_own_letters, rfl, q3 i _ t1 hi hr1 ht1⟩
def spTwo (K : PySem.W.Frag) (f : RSt → Nat → Nat → V) : Sp := sp3 fun self a b H Q E => ∃ x st, StAt K H self x st ∧ (∃ n, Kn H a n) ∧ (∃ n, Kn H b n) ∧ (nameIn st a = none → Rz H E (He.ga K "NoClass") a) ∧
  (∀ i, nameIn st a = some i → nameIn st b = none → Rz H E (He.ga K "NoClass") b) ∧ ∀ i j, nameIn st a = some i → nameIn st b = some j → ∀ H', Same H H' → Q (f st i j) H'
def fComp (st : RSt) (i j : Nat) : V := .bl (decide (rankP i j ∉ st.beside))
def fFar (st : RSt) (i j : Nat) : V := .int (farOf st (rankP i j))
abbrev n_Style_far : List Str := ["self", "one", "other", "rank"]
theorem sc_Style_far : FnScope n_Style_far ["self", "one", "other"] (defScope d_Style_far) := ⟨rfl, rfl, rfl, by decide +kernel, rfl, by decide +kernel, by decide +kernel⟩
theorem ok_Style_far (T : Top w K mg) : Has prg w K mg base (L2.CX prg w) 4 (He.ma K (He.ga K "Style") "far") ["self", "one", "other"] (spTwo K fFar) := by
  obtain ⟨fd, F⟩ := T.F_Style_far
  obtain ⟨fd_Style_rank_of, G_Style_rank_of, b_Style_rank_of, k_Style_rank_of⟩ := ok_Style_rank_of (base := base) T
  obtain ⟨fd_Style_distance, G_Style_distance, b_Style_distance, k_Style_distance⟩ := ok_Style_distance (base := base) T
  refine ⟨fd, F.ok (k := 3) sc_Style_far (fun _ _ _ _ h => sp3_len h) (fun cdv A outer s H vs Q E hr h => ?_), F.bindsN (fun _ _ _ _ _ _ us hl => match us, hl with | [_, _, _], _ => rfl), F.kp⟩
  obtain ⟨v0, v1, v2, rfl, h⟩ := h
  refine ⟨_, (pss_cons (ps_set (i := 3) sc_Style_far.nd rfl (Or.inl rfl) (pe_meth (pv 0) T.cl_Style T.m_Style_rank_of G_Style_rank_of (hr.mono (by decide)) b_Style_rank_of .nil (passes_call (takes_of rfl rfl rfl rfl) (fun _ _ _ _ h => h)) (pa_cons (pv 1) pa_nil)))
    (pss_one (ps_ret (pe_meth (pv 0) T.cl_Style T.m_Style_distance G_Style_distance (hr.mono (by decide)) b_Style_distance .nil pass0 (pa_cons (pv 3) (pa_cons (pe_meth (pv 0) T.cl_Style T.m_Style_rank_of G_Style_rank_of (hr.mono (by decide)) b_Style_rank_of .nil (passes_call (takes_of rfl rfl rfl rfl) (fun _ _ _ _ h => h)) (pa_cons (pv 2) pa_nil)) pa_nil)))))), ?_⟩
  obtain ⟨x, st, S, k1, k2, q1, q2, q3⟩ := h
  obtain ⟨⟨s0, dx, a1, a2, a3, a4, vs, kvs, ws, rfl, h1, h2, h3, h4, h5, h6, h7, h8⟩, wf, le⟩ := id S
  refine ⟨_, rfl, s0, dx, _, rfl, h1, rfl, _, rfl, _, _, rfl, x, st, S, k1, fun i hi => ?_, q1⟩
  refine ⟨_, rfl, s0, dx, _, rfl, h1, rfl, _, rfl, _, rfl, s0, dx, _, rfl, h1, rfl, _, rfl, _, _, rfl, x, st, S, k2, fun j hj => ?_, fun hj => q2 i hi hj⟩
  exact ⟨_, _, _, rfl, x, st, i, j, S, rfl, rfl, fun H' s => q3 i j hi hj H' s⟩
end
end SK

set_option maxHeartbeats 4000000
namespace SL
open PySem PySem.Spec PyProof.Rows L2 TL
def shownAt (st : RSt) (n : Int) : List Str := (st.rows.filter fun r => decide (0 < sizeAt r n)).map (·.name)
theorem fm_filter {α β : Type} (p : α → Bool) (f : α → β) : ∀ l : List α, l.filterMap (fun a => if p a = true then some (f a) else none) = (l.filter p).map f
  | [] => rfl
  | a :: l => by
    rw [List.filterMap_cons, List.filter_cons, fm_filter p f l]
    cases h : p a <;> simp
theorem kit_own {K : PySem.W.Frag} {C : Addr} {H : Hp} {v : V} {n : String} (c : IsC K C) (k : Kn H v n) : PySem.W.kitOne K (.type n) (.ref C) = some false := by
  unfold PySem.W.kitOne
  rw [show ((Value.type n) == Value.ref C) = false from rfl, if_neg Bool.false_ne_true]
  unfold PySem.W.kitCls
  dsimp only
  rw [c.cs, c.ty, if_pos (by rw [beq_self_eq_true, Bool.and_self])]
  cases k <;> rfl
end SL
namespace SK
open PySem PySem.Spec PyProof.Rows L2 SL
section
variable {w : World} {K : PySem.W.Frag} {mg : Str → Option Value} {base : Heap}
def spCall (K : PySem.W.Frag) : Sp := sp2 fun self z H Q E => ∃ x st, StAt K H self x st ∧ (∃ n, Kn H z n) ∧ (betw z 0 st.last = false → Rz H E (He.ga K "BadZoom") z) ∧
  ∀ n, z = .int n → betw z 0 st.last = true → ∀ H' t, Same H H' → H' t = some (.tup ((shownAt st n).map V.str)) → Q (.ref t) H'
abbrev n_Style_call : List Str := ["self", "zoom", "row"]
theorem sc_Style_call : FnScope n_Style_call ["self", "zoom"] (defScope d_Style_call) := ⟨rfl, rfl, rfl, by decide +kernel, rfl, by decide +kernel, by decide +kernel⟩
theorem ok_Style_call (T : Top w K mg) : Has prg w K mg base (L2.CX prg w) 4 (He.ma K (He.ga K "Style") "__call__") ["self", "zoom"] (spCall K) := by
  obtain ⟨fd, F⟩ := T.F_Style_call
  obtain ⟨fd_Style_check_zoom, G_Style_check_zoom, b_Style_check_zoom, k_Style_check_zoom⟩ := ok_Style_check_zoom (base := base) T
  obtain ⟨fd_ClassRow_size_at, G_ClassRow_size_at, b_ClassRow_size_at, k_ClassRow_size_at⟩ := ok_ClassRow_size_at (base := base) T
  refine ⟨fd, F.ok (k := 3) sc_Style_call (fun _ _ _ _ h => sp2_len h) (fun cdv A outer s H vs Q E hr h => ?_), F.bindsN (fun _ _ _ _ _ _ us hl => match us, hl with | [_, _], _ => rfl), F.kp⟩
  obtain ⟨v0, v1, rfl, h⟩ := h
  refine ⟨_, (pss_cons (ps_expr (pe_meth (pv 0) T.cl_Style T.m_Style_check_zoom G_Style_check_zoom (hr.mono (by decide)) b_Style_check_zoom .nil (passes_call (takes_of rfl rfl rfl rfl) (fun _ _ _ _ h => h)) (pa_cons (pv 1) pa_nil)))
    (pss_one (ps_ret (pe_callTy call_tuple_of (by rfl) T.b_tuple boot_tuple (pa_cons (pe_lc (own := [("row", 2)]) (g := gName 2) (by rfl) sc_Style_call.nd (pi_tup (pe_fld (pv 0) rfl)) (blkOk_by (N := n_Style_call) (sc := defScope d_Style_call) (own := [("row", 2)]) (by decide +kernel)) (fun _ _ _ _ _ => (pg_name (i := 2) sc_Style_call.nd rfl (Or.inl rfl) (.inr rfl))) (fun _ _ _ _ _ => (pts_one (pt_cmpR op_gt (pe_meth (pv 2) T.cl_ClassRow T.m_ClassRow_size_at G_ClassRow_size_at (hr.mono (by decide)) b_ClassRow_size_at .nil pass0 (pa_cons (pv 1) pa_nil)) pe_int (nomark _)))) (fun _ _ _ _ _ => (pe_fldK (K := K) rfl (pv 2) rfl))) pa_nil))))), ?_⟩
  obtain ⟨x, st, S, k1, q1, q3⟩ := h
  obtain ⟨⟨s0, dx, a1, a2, a3, a4, vs, kvs, ws, rfl, h1, h2, h3, h4, h5, h6, h7, h8⟩, wf, le⟩ := id S
  refine ⟨_, rfl, s0, dx, _, rfl, h1, rfl, _, rfl, _, _, rfl, x, st, S, k1, fun hb => ?_, q1⟩
  obtain ⟨n, rfl⟩ : ∃ n, v1 = .int n := by
    cases v1 <;> first | exact ⟨_, rfl⟩ | cases hb
  refine ⟨_, rfl, s0, _, dx, _, _, rfl, h1, T.cl_Style, T.na_Style_own_rows, rfl, a1, rfl, ⟨_, SqT.of h2⟩, fun D hD => ?_⟩
  refine lc_fm (walk_tup (xs := vs)) (fun i => (st.rows[i]?).bind fun r => if decide (0 < sizeAt r n) = true then some (V.str r.name) else none) hD (by rw [h3.len]; exact Nat.le_trans le.1 (by decide)) (fun H2 s2 => SqT.of (s2 _ _ h2)) ?_ ?_
  · rintro i v H2 H3 Ky Kn hi s2 ⟨rfl, hv⟩ ky kn
    obtain ⟨r, hr2, hra⟩ := h3.get hv
    obtain ⟨c, dc, t1, t2, rfl, hc, ht1, ht2⟩ := id (hra.same s2)
    refine ⟨rfl, _, rfl, c, dc, _, rfl, hc, rfl, _, rfl, _, _, rfl, r, n, hra.same s2, rfl, _, _, rfl, rfl, _, rfl, ?_⟩
    by_cases hp : 0 < sizeAt r n
    · rw [decide_eq_true hp]
      refine ⟨_, rfl, c, _, dc, _, _, rfl, hc, T.cl_ClassRow, T.na_ClassRow_own_name, rfl, ky _ _ ?_ (Same.refl _)⟩
      rw [hr2]
      exact if_pos (decide_eq_true hp)
    · rw [decide_eq_false hp]
      refine kn _ ?_ (Same.refl _)
      rw [hr2]
      exact if_neg (by simpa using hp)
  intro H2 s2 hD2
  rw [h3.len, fm_get, fm_filter] at hD2
  refine ⟨D, _, rfl, .inl ⟨SqL.of hD2, fun t ht => q3 n rfl hb _ t (s2.trans (same_new ht)) ?_⟩⟩
  rw [upd_same]
  unfold shownAt
  rw [List.map_map]
  rfl
def spText (K : PySem.W.Frag) : Sp := sp1 fun self H Q _ => ∃ x st, StAt K H self x st ∧ Q (.str x) H
abbrev n_Style_text : List Str := ["self"]
theorem sc_Style_text : FnScope n_Style_text ["self"] (defScope d_Style_text) := ⟨rfl, rfl, rfl, by decide +kernel, rfl, by decide +kernel, by decide +kernel⟩
theorem ok_Style_text (T : Top w K mg) : Has prg w K mg base CX0 1 (pga K (He.ma K (He.ga K "Style") "text")) ["self"] (spText K) := by
  obtain ⟨fd, F⟩ := T.F_Style_text
  refine ⟨fd, F.ok (k := 0) sc_Style_text (fun _ _ _ _ h => sp1_len h) (fun cdv A outer s H vs Q E hr h => ?_), F.bindsN (fun _ _ _ _ _ _ us hl => match us, hl with | [_], _ => rfl), F.kp⟩
  obtain ⟨v0, rfl, h⟩ := h
  refine ⟨_, PSs.nox (pss_one (ps_ret (pe_fld (pv 0) rfl))), ?_⟩
  obtain ⟨x, st, S, q⟩ := h
  obtain ⟨⟨s0, dx, a1, a2, a3, a4, vs, kvs, ws, rfl, h1, h2, h3, h4, h5, h6, h7, h8⟩, wf, le⟩ := id S
  exact ⟨_, rfl, s0, _, dx, _, _, rfl, h1, T.cl_Style, T.na_Style_own_text, rfl, q⟩
def spLast (K : PySem.W.Frag) : Sp := sp1 fun self H Q _ => ∃ x st, StAt K H self x st ∧ Q (.int st.last) H
abbrev n_Style_last : List Str := ["self"]
theorem sc_Style_last : FnScope n_Style_last ["self"] (defScope d_Style_last) := ⟨rfl, rfl, rfl, by decide +kernel, rfl, by decide +kernel, by decide +kernel⟩
theorem ok_Style_last (T : Top w K mg) : Has prg w K mg base CX0 1 (pga K (He.ma K (He.ga K "Style") "last")) ["self"] (spLast K) := by
  obtain ⟨fd, F⟩ := T.F_Style_last
  refine ⟨fd, F.ok (k := 0) sc_Style_last (fun _ _ _ _ h => sp1_len h) (fun cdv A outer s H vs Q E hr h => ?_), F.bindsN (fun _ _ _ _ _ _ us hl => match us, hl with | [_], _ => rfl), F.kp⟩
  obtain ⟨v0, rfl, h⟩ := h
  refine ⟨_, PSs.nox (pss_one (ps_ret (pe_fld (pv 0) rfl))), ?_⟩
  obtain ⟨x, st, S, q⟩ := h
  obtain ⟨⟨s0, dx, a1, a2, a3, a4, vs, kvs, ws, rfl, h1, h2, h3, h4, h5, h6, h7, h8⟩, wf, le⟩ := id S
  exact ⟨_, rfl, s0, _, dx, _, _, rfl, h1, T.cl_Style, T.na_Style_own_last, rfl, q⟩
def spClasses (K : PySem.W.Frag) : Sp := sp1 fun self H Q _ => ∃ x st, StAt K H self x st ∧ ∀ H' t, Same H H' → H' t = some (.tup ((names st).map V.str)) → Q (.ref t) H'
abbrev n_Style_classes : List Str := ["self", "row"]
theorem sc_Style_classes : FnScope n_Style_classes ["self"] (defScope d_Style_classes) := ⟨rfl, rfl, rfl, by decide +kernel, rfl, by decide +kernel, by decide +kernel⟩
theorem ok_Style_classes (T : Top w K mg) : Has prg w K mg base CX0 1 (pga K (He.ma K (He.ga K "Style") "classes")) ["self"] (spClasses K) := by
  obtain ⟨fd, F⟩ := T.F_Style_classes
  refine ⟨fd, F.ok (k := 0) sc_Style_classes (fun _ _ _ _ h => sp1_len h) (fun cdv A outer s H vs Q E hr h => ?_), F.bindsN (fun _ _ _ _ _ _ us hl => match us, hl with | [_], _ => rfl), F.kp⟩
  obtain ⟨v0, rfl, h⟩ := h
  refine ⟨_, PSs.nox (pss_one (ps_ret (pe_callTy call_tuple_of (by rfl) T.b_tuple boot_tuple (pa_cons (pe_lc (own := [("row", 1)]) (g := gName 1) (by rfl) sc_Style_classes.nd (pi_tup (pe_fld (pv 0) rfl)) (blkOk_by (N := n_Style_classes) (sc := defScope d_Style_classes) (own := [("row", 1)]) (by decide +kernel)) (fun _ _ _ _ _ => (pg_name (i := 1) sc_Style_classes.nd rfl (Or.inl rfl) (.inr rfl))) (fun _ _ _ _ _ => pts_nil) (fun _ _ _ _ _ => (pe_fldK (K := K) rfl (pv 1) rfl))) pa_nil)))), ?_⟩
  obtain ⟨x, st, S, q⟩ := h
  obtain ⟨⟨s0, dx, a1, a2, a3, a4, vs, kvs, ws, rfl, h1, h2, h3, h4, h5, h6, h7, h8⟩, wf, le⟩ := id S
  refine ⟨_, rfl, s0, _, dx, _, _, rfl, h1, T.cl_Style, T.na_Style_own_rows, rfl, a1, rfl, ⟨_, SqT.of h2⟩, fun D hD => ?_⟩
  refine lc_fm (walk_tup (xs := vs)) (fun i => some ((st.rows[i]?.map fun r => V.str r.name).getD .non)) hD (by rw [h3.len]; exact Nat.le_trans le.1 (by decide)) (fun H2 s2 => SqT.of (s2 _ _ h2)) ?_ ?_
  · rintro i v H2 H3 Ky Kn hi s2 ⟨rfl, hv⟩ ky kn
    obtain ⟨r, hr2, hra⟩ := h3.get hv
    obtain ⟨c, dc, t1, t2, rfl, hc, ht1, ht2⟩ := id (hra.same s2)
    refine ⟨rfl, _, rfl, c, _, dc, _, _, rfl, hc, T.cl_ClassRow, T.na_ClassRow_own_name, rfl, ky _ _ ?_ (Same.refl _)⟩
    rw [hr2]
    rfl
  intro H2 s2 hD2
  rw [fm_some, h3.len, map_get st.rows (fun r => V.str r.name)] at hD2
  refine ⟨D, _, rfl, .inl ⟨SqL.of hD2, fun t ht => q _ t (s2.trans (same_new ht)) ?_⟩⟩
  rw [upd_same]
  unfold names
  rw [List.map_map]
  rfl
def spEqS (K : PySem.W.Frag) : Sp := sp2 fun self o H Q _ => ∃ x st, StAt K H self x st ∧ ((∃ y st', StAt K H o y st' ∧ Q (.bl (decide (x = y))) H) ∨ ((∃ n, Kn H o n) ∧ Q (.bl false) H))
abbrev n_Style_eq : List Str := ["self", "other"]
theorem sc_Style_eq : FnScope n_Style_eq ["self", "other"] (defScope d_Style_eq) := ⟨rfl, rfl, rfl, by decide +kernel, rfl, by decide +kernel, by decide +kernel⟩
theorem ok_Style_eq (T : Top w K mg) : Has prg w K mg base CX0 1 (He.ma K (He.ga K "Style") "__eq__") ["self", "other"] (spEqS K) := by
  obtain ⟨fd, F⟩ := T.F_Style_eq
  refine ⟨fd, F.ok (k := 0) sc_Style_eq (fun _ _ _ _ h => sp2_len h) (fun cdv A outer s H vs Q E hr h => ?_), F.bindsN (fun _ _ _ _ _ _ us hl => match us, hl with | [_, _], _ => rfl), F.kp⟩
  obtain ⟨v0, v1, rfl, h⟩ := h
  refine ⟨_, PSs.nox (pss_one (ps_ret (pe_and (pe_callB call_isi (by rfl) T.b_isinstance (by decide +kernel) (pa_cons (pv 1) (pa_cons (pe_glob (v := .ref (He.ga K "Style")) (by rfl) T.g_Style rfl) pa_nil))) (pe_one (pe_cmpR op_eq (pe_fld (pv 0) rfl) (pe_fld (pv 1) rfl) (nomark _)))))), ?_⟩
  obtain ⟨x, st, S, q⟩ := h
  obtain ⟨⟨s0, dx, a1, a2, a3, a4, vs, kvs, ws, rfl, h1, h2, h3, h4, h5, h6, h7, h8⟩, wf, le⟩ := id S
  rcases q with ⟨y, st', S', q⟩ | ⟨⟨n, kn⟩, q⟩
  · obtain ⟨⟨s1, dy, b1, b2, b3, b4, vs', kvs', ws', rfl, g1, _⟩, _⟩ := id S'
    refine ⟨_, rfl, _, _, _, _, true, rfl, .own _, T.is_Style.tyx T.cl_Style g1, IsC.self, _, rfl, ?_⟩
    refine ⟨_, rfl, s0, _, dx, _, _, rfl, h1, T.cl_Style, T.na_Style_own_text, rfl, _, rfl, s1, _, dy, _, _, rfl, g1, T.cl_Style, T.na_Style_own_text, rfl, rfl, ?_⟩
    have e : decide (V.str x = V.str y) = decide (x = y) := decide_eq_decide.mpr ⟨fun z => V.str.inj z, fun z => congrArg _ z⟩
    rw [e]
    exact q
  · exact ⟨_, rfl, _, _, _, _, false, rfl, .own _, kn.tyx, kit_own T.is_Style kn, _, rfl, q⟩
end
end SK

set_option maxHeartbeats 4000000
namespace SL
open PySem PySem.Spec PyProof.Rows L2
/-- the signs of a text -/
def sgn (z : Str) : List Str := z.cps.toList.map fun c => ⟨#[c]⟩
section
variable {X : Cx}
theorem call_listS (hc : X.calm = true) : CallR X (.type "list") (fun xs H Q => ∃ z, xs = [.str z] ∧ z.length ≤ sizeLine ∧ ∀ p, H p = none → Q (.ref p) (upd H p (.lst ((sgn z).map V.str)))) := by
  intro pins s σ H xs us Q I r q
  obtain ⟨z, ex, hz, q⟩ := q
  subst ex
  obtain ⟨u, eu, rx⟩ := vals1 r
  subst eu
  obtain ⟨t, rfl⟩ := rx
  refine call_list_str (I.ok.hd hc) z t (fun h' tk acc c' hk e hi => ?_) hz
  have hl : (sgn z).length = z.cps.size := by unfold sgn; rw [List.length_map, Array.length_toList]
  refine ⟨.ref s.heap.objs.size, upd H s.heap.objs.size (.lst ((sgn z).map V.str)), I.laid hk (Nat.le_refl _) ⟨by rw [List.length_map, hl]; exact hz, acc.toList, c', ?_, by rw [Array.toArray_toList]; exact e⟩, rfl, q _ (I.hok.fresh (Nat.le_refl _))⟩
  refine vals_of_idx _ _ (by rw [List.length_map, hl, Array.length_toList]; exact hi.1) fun j u hj => ?_
  obtain ⟨c, t', hc, rfl⟩ := hi.2 j u (by rw [← Array.getElem?_toList]; exact hj)
  exact ⟨.str ⟨#[c]⟩, by simp [sgn, hc], ⟨_, rfl⟩⟩
end
end SL
set_option maxHeartbeats 4000000
namespace SL
open PySem PySem.Spec PyProof.Rows L2
def spTakeL : Sp := sp2 fun a b H Q E => spTake [a, b] H Q E
def spOfL : Sp := sp2 fun a b H Q E => spOf [a, b] H Q E
def spPotL (K : PySem.W.Frag) : Sp := sp2 fun a b H Q E => spPot K [a, b] H Q E
end SL
namespace SK
open PySem PySem.Spec PyProof.Rows L2 SL
section
variable {w : World} {K : PySem.W.Frag} {mg : Str → Option Value} {base : Heap}
abbrev n_law_take : List Str := ["_law_pot_here", "_law_upto", "_law_prime", "_law_mixed", "_law_digit"]
theorem sc_law_take : FnScope n_law_take ["_law_pot_here", "_law_upto"] (defScope d_law_take) := ⟨rfl, rfl, rfl, by decide +kernel, rfl, by decide +kernel, by decide +kernel⟩
theorem ok_law_take (T : Top w K mg) : Has prg w K mg base CX0 1 (He.ga K "_law_take") ["_law_pot_here", "_law_upto"] spTakeL := by
  obtain ⟨fd, F⟩ := T.F_law_take
  refine ⟨fd, F.ok (k := 0) sc_law_take (fun _ _ _ _ h => sp2_len h) (fun cdv A outer s H vs Q E hr h => ?_), F.bindsN (fun _ _ _ _ _ _ us hl => match us, hl with | [_, _], _ => rfl), F.kp⟩
  obtain ⟨v0, v1, rfl, h⟩ := h
  refine ⟨_, PSs.nox (pss_cons (ps_if (pt_cmpR op_gt (pe_ix ix_list (pv 0) pe_int (fun _ _ => rfl)) pe_int (nomark _)) (pss_cons (ps_set (i := 4) sc_law_take.nd rfl (Or.inl rfl) (pe_op op_mod (pe_callTy call_int1 (by rfl) T.b_int boot_int (pa_cons (pe_ix ix_list (pv 0) pe_int (fun _ _ => rfl)) pa_nil)) (pv 1)))
    (pss_cons (ps_asg (pe_op op_fdivW (pe_ix ix_list (pv 0) pe_int (fun _ _ => rfl)) (pv 1)) (pg_sub (pv 0) pe_int set_list))
    (pss_one (ps_ret (pv 4))))) pss_nil)
    (pss_cons (ps_asg (pe_op op_add (pe_ix ix_list (pv 0) pe_int (fun _ _ => rfl)) pe_int) (pg_sub (pv 0) pe_int set_list))
    (pss_cons (ps_set (i := 2) sc_law_take.nd rfl (Or.inl rfl) (pe_ix ix_list (pe_lst (pa_cons pe_int (pa_cons pe_int (pa_cons pe_int (pa_cons pe_int (pa_cons pe_int pa_nil)))))) (pe_op op_mod (pe_callTy call_int1 (by rfl) T.b_int boot_int (pa_cons (pe_ix ix_list (pv 0) pe_int (fun _ _ => rfl)) pa_nil)) pe_int) (fun _ _ => rfl)))
    (pss_cons (ps_set (i := 3) sc_law_take.nd rfl (Or.inl rfl) (pe_op op_mod (pe_callTy call_int1 (by rfl) T.b_int boot_int (pa_cons (pe_op op_powW (pe_callTy call_int1 (by rfl) T.b_int boot_int (pa_cons (pe_op op_add (pe_op op_add (pe_ix ix_list (pv 0) pe_int (fun _ _ => rfl)) (pe_op op_mul (pe_op op_mul pe_int (pe_ix ix_list (pv 0) pe_int (fun _ _ => rfl))) (pe_ix ix_list (pv 0) pe_int (fun _ _ => rfl)))) pe_int) pa_nil)) pe_int) pa_nil)) (pv 2)))
    (pss_cons (ps_set (i := 3) sc_law_take.nd rfl (Or.inl rfl) (pe_op op_mod (pe_callTy call_int1 (by rfl) T.b_int boot_int (pa_cons (pe_op op_mul (pv 3) (pe_op op_add (pe_op op_mod (pe_callTy call_int1 (by rfl) T.b_int boot_int (pa_cons (pv 3) pa_nil)) pe_int) (pe_op op_mul pe_int (pe_ix ix_list (pv 0) pe_int (fun _ _ => rfl))))) pa_nil)) pe_int))
    (pss_one (ps_ret (pe_op op_mod (pe_callTy call_int1 (by rfl) T.b_int boot_int (pa_cons (pe_op op_fdivW (pv 3) pe_int) pa_nil)) (pv 1))))))))), ?_⟩
  obtain ⟨p, n, f, l, e, hp, ⟨o, m, c, rfl, h1, h2, h3, h4, h5, h6⟩, hn, hn2, k⟩ := h
  cases e
  -- if pot[0] > 0
  refine ⟨_, rfl, p, _, _, _, rfl, rfl, SqL.of hp, rfl, _, _, rfl, rfl, _, rfl, ?_⟩
  refine ite2 (fun h0 => ?_) (fun h0 => ?_)
  · have h0' : 0 < o := of_decide_eq_true h0
    have hq : CDivW o n := wide_div (b := 60) hn (by omega) (by decide) (by decide)
    refine ⟨_, rfl, p, _, _, _, rfl, rfl, SqL.of hp, rfl, .inl ⟨_, rfl, _, rfl, _, _, rfl, rfl, hn, ?_⟩⟩
    refine ⟨_, rfl, p, _, _, _, rfl, rfl, SqL.of hp, rfl, _, rfl, _, _, rfl, rfl, hq, _, rfl, p, _, _, 0, rfl, rfl, hp, rfl, ?_⟩
    refine ⟨_, rfl, ?_⟩
    refine k _ _ _ (Int.emod_nonneg _ (by omega)) (Int.emod_lt_of_pos _ hn) ⟨o / n, m, c, rfl, Int.ediv_nonneg h1 (by omega), ?_, h3, h4, h5, by omega⟩ upd_same Kp.upd
    exact Int.lt_of_le_of_lt (Int.ediv_le_self _ h1) h2
  · -- pot[2] = pot[2] + 1
    refine ⟨_, rfl, p, _, _, _, rfl, rfl, SqL.of hp, rfl, _, _, rfl, rfl, _, rfl, p, _, _, 2, rfl, rfl, hp, rfl, ?_⟩
    have hp1 : upd H p (.lst [V.int o, V.int m, V.int (c + 1)]) p = some (.lst [V.int o, V.int m, V.int (c + 1)]) := upd_same
    -- prime = [..][int(pot[2]) % 5]
    refine ⟨(by show 5 ≤ sizeLine; decide), fun q hq => ?_⟩
    have npq : p ≠ q := ne_of_none hp1 hq
    have hp2 : upd (upd H p (.lst [V.int o, V.int m, V.int (c + 1)])) q (.lst [V.int 2147483647, V.int 2147483629, V.int 2147483587, V.int 2147483579, V.int 2147483563]) p = some (.lst [V.int o, V.int m, V.int (c + 1)]) := by
      rw [upd_ne npq]
      exact hp1
    have kp2 : Kp p H (upd (upd H p (.lst [V.int o, V.int m, V.int (c + 1)])) q (.lst [V.int 2147483647, V.int 2147483629, V.int 2147483587, V.int 2147483579, V.int 2147483563])) := Kp.upd.new hq
    obtain ⟨pr, hat, hmem⟩ := atI_mod (xs := [V.int 2147483647, V.int 2147483629, V.int 2147483587, V.int 2147483579, V.int 2147483563]) (i := (c + 1) % 5) (n := 5) rfl (Int.emod_nonneg _ (by decide)) (Int.emod_lt_of_pos _ (by decide))
    obtain ⟨pi, rfl, hpi0, hpi1⟩ : ∃ pi : Int, pr = V.int pi ∧ 0 < pi ∧ pi < 2 ^ 31 := by
      simp only [List.mem_cons, List.not_mem_nil, or_false] at hmem
      rcases hmem with rfl | rfl | rfl | rfl | rfl <;> exact ⟨_, rfl, by decide, by decide⟩
    refine ⟨_, rfl, p, _, _, _, rfl, rfl, SqL.of hp2, rfl, .inl ⟨_, rfl, _, _, rfl, rfl, (by show (0 : Int) < 5; decide), q, _, _, _, rfl, rfl, SqL.of upd_same, hat, ?_⟩⟩
    -- mixed = int(int(pot[1] + 104707 * pot[2] * pot[2] + 31) ** 3) % prime
    have hc1 : 0 ≤ c + 1 := by omega
    have hc2 : c + 1 ≤ 1000000 := by omega
    have hsq0 : 0 ≤ 104707 * (c + 1) * (c + 1) := Int.mul_nonneg (by omega) hc1
    have hsq1 : 104707 * (c + 1) * (c + 1) ≤ 104707 * 1000000 * 1000000 := Int.mul_le_mul (by omega) hc2 hc1 (by decide)
    refine ⟨_, rfl, p, _, _, _, rfl, rfl, SqL.of hp2, rfl, _, rfl, p, _, _, _, rfl, rfl, SqL.of hp2, rfl, _, _, rfl, rfl, .inl ⟨by decide, by decide⟩, _, rfl, p, _, _, _, rfl, rfl, SqL.of hp2, rfl, _, _, rfl, rfl, .inr ⟨by omega, by omega⟩, _, _, rfl, rfl, _, _, rfl, rfl, ?_⟩
    have hx0 : 0 ≤ m + 104707 * (c + 1) * (c + 1) + 31 := by omega
    have hx1 : m + 104707 * (c + 1) * (c + 1) + 31 < 2 ^ 63 := by omega
    have hb3 := bits_le (i := m + 104707 * (c + 1) * (c + 1) + 31) (n := 63) (by omega)
    have hpw : CPowW (m + 104707 * (c + 1) * (c + 1) + 31) 3 := ⟨by decide, by omega⟩
    refine .inl ⟨_, rfl, _, _, rfl, rfl, hpw, .inl ⟨_, rfl, _, rfl, _, _, rfl, rfl, hpi0, ?_⟩⟩
    generalize hM : (m + 104707 * (c + 1) * (c + 1) + 31) ^ (3 : Int).toNat % pi = M1
    have hM0 : 0 ≤ M1 := by rw [← hM]; exact Int.emod_nonneg _ (by omega)
    have hM1 : M1 < 2 ^ 31 := by rw [← hM]; exact Int.lt_trans (Int.emod_lt_of_pos _ hpi0) hpi1
    -- mixed = int(mixed * (int(mixed) % 10009 + 101 * pot[2])) % 2305843009213693907
    refine ⟨_, rfl, _, rfl, .inl ⟨_, rfl, _, _, rfl, rfl, (by show (0 : Int) < 10009; decide), ?_⟩⟩
    refine ⟨_, rfl, p, _, _, _, rfl, rfl, SqL.of hp2, rfl, _, _, rfl, rfl, .inl ⟨by decide, by decide⟩, _, _, rfl, rfl, _, _, rfl, rfl, .inl ⟨by omega, by omega⟩, .inl ⟨_, rfl, _, _, rfl, rfl, (by show (0 : Int) < 2305843009213693907; decide), ?_⟩⟩
    -- return int(mixed // 109) % upto
    refine ⟨_, rfl, _, _, rfl, rfl, wide_div (b := 60) (by decide) (by decide) (by decide) (by decide), .inl ⟨_, rfl, _, rfl, _, _, rfl, rfl, hn, ?_⟩⟩
    refine k _ _ _ (Int.emod_nonneg _ (by omega)) (Int.emod_lt_of_pos _ hn) ⟨o, m, c + 1, rfl, h1, h2, h3, h4, by omega, by omega⟩ hp2 kp2
abbrev n_law_of : List Str := ["_law_pot_here", "_law_some"]
theorem sc_law_of : FnScope n_law_of ["_law_pot_here", "_law_some"] (defScope d_law_of) := ⟨rfl, rfl, rfl, by decide +kernel, rfl, by decide +kernel, by decide +kernel⟩
theorem ok_law_of (T : Top w K mg) : Has prg w K mg base CX0 2 (He.ga K "_law_of") ["_law_pot_here", "_law_some"] spOfL := by
  obtain ⟨fd, F⟩ := T.F_law_of
  obtain ⟨fd_law_take, G_law_take, b_law_take, k_law_take⟩ := ok_law_take (base := base) T
  refine ⟨fd, F.ok (k := 1) sc_law_of (fun _ _ _ _ h => sp2_len h) (fun cdv A outer s H vs Q E hr h => ?_), F.bindsN (fun _ _ _ _ _ _ us hl => match us, hl with | [_, _], _ => rfl), F.kp⟩
  obtain ⟨v0, v1, rfl, h⟩ := h
  refine ⟨_, PSs.nox (pss_one (ps_ret (pe_ix ix_list (pv 1) (pe_call G_law_take (hr.mono (by decide)) (by rfl) T.g_law_take k_law_take b_law_take .nil pass0 (pa_cons (pv 0) (pa_cons (pe_callB call_len (by rfl) T.b_len (by decide +kernel) (pa_cons (pv 1) pa_nil)) pa_nil))) (fun _ _ => rfl)))), ?_⟩
  obtain ⟨p, a, f, l, xs, e, hp, hl, ha, hap, hx0, hx1, k⟩ := h
  cases e
  refine ⟨_, rfl, _, rfl, _, rfl, _, xs.length, rfl, .inl ⟨_, SqL.of ha, rfl⟩, ?_⟩
  refine ⟨_, _, rfl, p, xs.length, f, l, rfl, hp, hl, by omega, by omega, fun r l' H' h0 h1 hl' hp' kp => ?_⟩
  obtain ⟨v, hv, hm⟩ := atI_mod (xs := xs) (i := r) rfl h0 h1
  refine ⟨a, xs, r, v, rfl, rfl, SqL.of (kp a _ hap ha), hv, k v l' H' hm hl' hp' kp⟩
abbrev n_law_pot : List Str := ["_law_script", "_law_k", "_law_cell", "_law_own", "_law_small"]
theorem sc_law_pot : FnScope n_law_pot ["_law_script", "_law_k"] (defScope d_law_pot) := ⟨rfl, rfl, rfl, by decide +kernel, rfl, by decide +kernel, by decide +kernel⟩
theorem ok_law_pot (T : Top w K mg) : Has prg w K mg base CX0 1 (He.ga K "_law_pot") ["_law_script", "_law_k"] (spPotL K) := by
  obtain ⟨fd, F⟩ := T.F_law_pot
  refine ⟨fd, F.ok (k := 0) sc_law_pot (fun _ _ _ _ h => sp2_len h) (fun cdv A outer s H vs Q E hr h => ?_), F.bindsN (fun _ _ _ _ _ _ us hl => match us, hl with | [_, _], _ => rfl), F.kp⟩
  obtain ⟨v0, v1, rfl, h⟩ := h
  refine ⟨_, PSs.nox (pss_cons (ps_set (i := 2) sc_law_pot.nd rfl (Or.inl rfl) (pe_ifExp (pt_cmpR op_lt (pv 1) (pe_callB call_len (by rfl) T.b_len (by decide +kernel) (pa_cons (pv 0) pa_nil)) (nomark _)) (pe_ix ix_list (pv 0) (pv 1) (fun _ _ => rfl)) (pe_op op_add (pe_op op_mul pe_int (pv 1)) pe_int)))
    (pss_cons (ps_set (i := 3) sc_law_pot.nd rfl (Or.inl rfl) (pe_op op_mul (pe_op op_mod (pe_callTy call_int1 (by rfl) T.b_int boot_int (pa_cons (pe_callB call_abs (by rfl) T.b_abs (by decide +kernel) (pa_cons (pv 2) pa_nil)) pa_nil)) (pe_op op_powW (pe_op op_powW pe_int pe_int) pe_int)) (pe_callTy call_int1 (by rfl) T.b_int boot_int (pa_cons (pe_cmpR op_ge (pe_callB call_abs (by rfl) T.b_abs (by decide +kernel) (pa_cons (pv 2) pa_nil)) (pe_op op_powW pe_int pe_int) (nomark _)) pa_nil))))
    (pss_cons (ps_set (i := 4) sc_law_pot.nd rfl (Or.inl rfl) (pe_op op_mod (pe_callTy call_int1 (by rfl) T.b_int boot_int (pa_cons (pv 2) pa_nil)) pe_int))
    (pss_one (ps_ret (pe_lst (pa_cons (pv 3) (pa_cons (pe_op op_mod (pe_callTy call_int1 (by rfl) T.b_int boot_int (pa_cons (pe_op op_add (pe_op op_add (pe_op op_mul (pv 4) pe_int) (pe_op op_mul (pe_op op_mul pe_int (pv 1)) (pv 1))) pe_int) pa_nil)) pe_int) (pa_cons pe_int pa_nil))))))))), ?_⟩
  obtain ⟨a, ns, k, e, hS, hk0, hk1, hl, q⟩ := h
  cases e
  -- cell
  refine ⟨_, rfl, _, rfl, _, ns.length, rfl, .inl ⟨_, hS, by rw [List.length_map]⟩, _, _, rfl, rfl, _, rfl, ?_⟩
  refine ite2 (fun h0 => ?wa) (fun h0 => ?wb)
  case' wa =>
    have h0' : k < ns.length := of_decide_eq_true h0
    obtain ⟨z, hz⟩ : ∃ z : Int, (ns.map V.int)[k.toNat]? = some (V.int z) := ⟨ns[k.toNat]'(by omega), by rw [List.getElem?_map, List.getElem?_eq_getElem (by omega)]; rfl⟩
    refine ⟨_, rfl, _, rfl, a, _, _, V.int z, rfl, rfl, hS, at_of (j := k.toNat) (by omega) hz, ?_⟩
  case' wb =>
    refine ⟨_, rfl, _, _, rfl, rfl, .inl ⟨by decide, by decide⟩, _, _, rfl, rfl, ?_⟩
  all_goals
    -- own
    refine ⟨_, rfl, _, rfl, .inl ⟨_, rfl, ?_⟩⟩
    refine ⟨_, _, rfl, rfl, pw_10_60, _, _, rfl, rfl, pw_60_5, _, _, rfl, rfl, pw_pos, ?_⟩
    refine ⟨_, rfl, _, rfl, _, _, rfl, rfl, pw_10_18, _, _, rfl, rfl, .inr ⟨_, rfl, ?_⟩⟩
    refine ⟨_, _, rfl, rfl, .inr (b01 _), ?_⟩
    -- small
    refine ⟨_, rfl, .inl ⟨_, rfl, _, _, rfl, rfl, (by show (0 : Int) < 2305843009213693951; decide), ?_⟩⟩
    refine ⟨_, rfl, _, rfl, _, _, rfl, rfl, .inl (mod_small _), _, rfl, _, _, rfl, rfl, .inl ⟨by decide, by decide⟩, _, rfl, _, _, rfl, rfl, .inr ⟨by omega, by omega⟩, _, _, rfl, rfl, _, _, rfl, rfl, .inl ⟨_, rfl, _, _, rfl, rfl, (by show (0 : Int) < 2305843009213693921; decide), ?_⟩⟩
    refine ⟨(by show 3 ≤ sizeLine; decide), fun p hp => ?_⟩
    exact q p _ _ hp ⟨_, _, _, rfl, (own_ok _).1, (own_ok _).2, (mix_ok _).1, (mix_ok _).2, by decide, by decide⟩ upd_same (same_new hp)
end
end SK

set_option maxHeartbeats 4000000
namespace SL
open PySem PySem.Spec PyProof.Rows L2
/-- a pot with f draws left -/
def Pt (p : Addr) (f : Nat) (H : Hp) : Prop := ∃ l, H p = some (.lst l) ∧ PotL f l
theorem Pt.mono {p : Addr} {f g : Nat} {H : Hp} (h : Pt p f H) (e : g ≤ f) : Pt p g H := by
  obtain ⟨l, h1, h2⟩ := h
  exact ⟨l, h1, h2.mono e⟩
theorem Pt.same {p : Addr} {f : Nat} {H H' : Hp} (h : Pt p f H) (s : Same H H') : Pt p f H' := by
  obtain ⟨l, h1, h2⟩ := h
  exact ⟨l, s _ _ h1, h2⟩
theorem Pt.ne {p a : Addr} {f : Nat} {H : Hp} (h : Pt p f H) (ha : H a = none) : a ≠ p := by
  obtain ⟨l, h1, _⟩ := h
  exact (ne_of_none h1 ha).symm
theorem Pt.upd {p a : Addr} {f : Nat} {H : Hp} {o : HO} (h : Pt p f H) (ha : a ≠ p) : Pt p f (L2.upd H a o) := by
  obtain ⟨l, h1, h2⟩ := h
  exact ⟨l, by rw [upd_ne ha.symm]; exact h1, h2⟩
theorem Pt.tk {p : Addr} {f : Nat} {H H' : Hp} (h : Pt p f H) (k : Kp p H H') : Tk H H' := by
  obtain ⟨l, h1, _⟩ := h
  exact k.tk h1
theorem take_q {p : Addr} {n : Int} {f : Nat} {H : Hp} {Q : VK} {E : XK} (hp : Pt p (f + 1) H) (hn : 0 < n) (hn2 : n ≤ 10 ^ 18) (k : ∀ (r : Int) (H' : Hp), 0 ≤ r → r < n → Pt p f H' → Kp p H H' → Q (.int r) H') : spTakeL [.ref p, .int n] H Q E := by
  obtain ⟨l, h1, h2⟩ := hp
  exact ⟨_, _, rfl, p, n, f, l, rfl, h1, h2, hn, hn2, fun r l' H' r0 r1 hl hp' kp => k r H' r0 r1 ⟨l', hp', hl⟩ kp⟩
theorem of_q {p a : Addr} {f : Nat} {H : Hp} {Q : VK} {E : XK} {xs : List V} (hp : Pt p (f + 1) H) (ha : H a = some (.lst xs)) (hap : a ≠ p) (h0 : 0 < xs.length) (h1 : xs.length ≤ 1000000) (k : ∀ (x : V) (H' : Hp), x ∈ xs → Pt p f H' → Kp p H H' → Q x H') : spOfL [.ref p, .ref a] H Q E := by
  obtain ⟨l, g1, g2⟩ := hp
  exact ⟨_, _, rfl, p, a, f, l, xs, rfl, g1, g2, ha, hap, h0, h1, fun x l' H' hx hl hp' kp => k x H' hx ⟨l', hp', hl⟩ kp⟩
theorem range_j {n : Nat} (h : n < 1000000) : -(2 ^ 62) ≤ (n : Int) ∧ (n : Int) < 2 ^ 62 := by omega
def allLet (z : Str) : Bool := z.cps.toList.all fun c => decide (c ∈ letL)
theorem allLet_app {z y : Str} (h : allLet z = true) (g : allLet y = true) : allLet (z ++ y) = true := by
  have e : (z ++ y).cps.toList = z.cps.toList ++ y.cps.toList := by
    show (z.cps ++ y.cps).toList = _
    rw [Array.toList_append]
  unfold allLet at *
  rw [e, List.all_append, h, g]
  rfl
theorem len_app (z y : Str) : (z ++ y).length = z.length + y.length := by
  show (z.cps ++ y.cps).size = _
  rw [Array.size_append]
  rfl
def cand : List Str := sgn "abcdefghijklmnopqrstuvwxyz" ++ (["aa", "bb", "cc", "dd", "ee"] : List Str)
theorem cand_ok : cand.length = 31 ∧ cand.Nodup ∧ ∀ z ∈ cand, isName z = true := by decide +kernel
theorem nd_len {α : Type} [DecidableEq α] : ∀ {l m : List α}, l.Nodup → (∀ a ∈ l, a ∈ m) → l.length ≤ m.length
  | [], _, _, _ => Nat.zero_le _
  | a :: l, m, h, s => by
    rw [List.nodup_cons] at h
    have hm := s a (by simp)
    have := nd_len (l := l) (m := m.erase a) h.2 fun b hb => (List.mem_erase_of_ne (fun e => h.1 (by rw [← e]; exact hb))).mpr (s b (by simp [hb]))
    rw [List.length_erase_of_mem hm] at this
    have : 0 < m.length := List.length_pos_of_mem hm
    rw [List.length_cons]
    omega
theorem cand_left {ts : List Str} (h : ts.length ≤ 30) : ∃ z r, cand.filter (fun z => decide (z ∉ ts)) = z :: r ∧ z ∉ ts ∧ isName z = true := by
  have hne : cand.filter (fun z => decide (z ∉ ts)) ≠ [] := fun e => by
    have hs : ∀ z ∈ cand, z ∈ ts := fun z hz => by
      by_cases hm : z ∈ ts
      · exact hm
      · have : z ∈ cand.filter (fun z => decide (z ∉ ts)) := List.mem_filter.mpr ⟨hz, decide_eq_true hm⟩
        rw [e] at this
        cases this
    have hle := nd_len cand_ok.2.1 hs
    rw [cand_ok.1] at hle
    omega
  obtain ⟨z, r, e⟩ := List.exists_cons_of_ne_nil hne
  have hz : z ∈ cand.filter (fun z => decide (z ∉ ts)) := by rw [e]; simp
  obtain ⟨h1, h2⟩ := List.mem_filter.mp hz
  exact ⟨z, r, e, of_decide_eq_true h2, cand_ok.2.2 z h1⟩
theorem isName_of {z : Str} (h1 : 1 ≤ z.length) (h2 : z.length ≤ 12) (h : allLet z = true) : isName z = true := by
  unfold isName
  rw [decide_eq_true h1, decide_eq_true h2]
  exact h
theorem sign_let {c : Nat} (h : c ∈ letL) : allLet ⟨#[c]⟩ = true := by
  unfold allLet
  simp [h]
def spNameL : Sp := sp2 fun a b H Q _ => ∃ (p t : Addr) (f : Nat) (ts : List Str), a = .ref p ∧ b = .ref t ∧ Pt p (f + 15) H ∧ H t = some (.lst (ts.map V.str)) ∧ t ≠ p ∧ ts.length ≤ 30 ∧ ∀ z H', isName z = true → z ∉ ts → Pt p f H' → Kp p H H' → Q (.str z) H'
theorem mem3 {a b c x : V} (h : x ∈ [a, b, c]) : x = a ∨ x = b ∨ x = c := by simpa using h
theorem notInV (z : Str) (ts : List Str) : (if true = true then !inV (.str z) (ts.map V.str) else inV (.str z) (ts.map V.str)) = decide (z ∉ ts) := by
  rw [if_pos rfl, inV_str, ← decide_not]
end SL
namespace SK
open PySem PySem.Spec PyProof.Rows L2 SL
section
variable {w : World} {K : PySem.W.Frag} {mg : Str → Option Value} {base : Heap}
abbrev n_law_name : List Str := ["_law_pot_here", "_law_taken", "_law_way", "_law_word", "_law_turn", "_law_one"]
theorem sc_law_name : FnScope n_law_name ["_law_pot_here", "_law_taken"] (defScope d_law_name) := ⟨rfl, rfl, rfl, by decide +kernel, rfl, by decide +kernel, by decide +kernel⟩
theorem ok_law_name (T : Top w K mg) : Has prg w K mg base CX0 3 (He.ga K "_law_name") ["_law_pot_here", "_law_taken"] spNameL := by
  obtain ⟨fd, F⟩ := T.F_law_name
  obtain ⟨fd_law_take, G_law_take, b_law_take, k_law_take⟩ := ok_law_take (base := base) T
  obtain ⟨fd_law_of, G_law_of, b_law_of, k_law_of⟩ := ok_law_of (base := base) T
  refine ⟨fd, F.ok (k := 2) sc_law_name (fun _ _ _ _ h => sp2_len h) (fun cdv A outer s H vs Q E hr h => ?_), F.bindsN (fun _ _ _ _ _ _ us hl => match us, hl with | [_, _], _ => rfl), F.kp⟩
  obtain ⟨v0, v1, rfl, h⟩ := h
  refine ⟨_, PSs.nox (pss_cons (ps_set (i := 2) sc_law_name.nd rfl (Or.inl rfl) (pe_call G_law_take (hr.mono (by decide)) (by rfl) T.g_law_take k_law_take b_law_take .nil pass0 (pa_cons (pv 0) (pa_cons pe_int pa_nil))))
    (pss_cons (ps_set (i := 3) sc_law_name.nd rfl (Or.inl rfl) (pe_call G_law_of (hr.mono (by decide)) (by rfl) T.g_law_of k_law_of b_law_of .nil pass0 (pa_cons (pv 0) (pa_cons (pe_lst (pa_cons pe_str (pa_cons pe_str (pa_cons pe_str (pa_cons pe_str (pa_cons pe_str (pa_cons pe_str (pa_cons pe_str (pa_cons pe_str (pa_cons pe_str (pa_cons pe_str pa_nil))))))))))) pa_nil))))
    (pss_cons (ps_if (pt_cmpR op_gt (pv 2) pe_int (nomark _)) (pss_cons (ps_set (i := 3) sc_law_name.nd rfl (Or.inl rfl) pe_str)
    (pss_one (ps_for PassesOwn.never rfl (pi_range1 (by rfl) T.b_range (pa_cons (pe_ix ix_list (pe_lst (pa_cons pe_int (pa_cons (pe_op op_add pe_int (pe_call G_law_take (hr.mono (by decide)) (by rfl) T.g_law_take k_law_take b_law_take .nil pass0 (pa_cons (pv 0) (pa_cons pe_int pa_nil)))) (pa_cons pe_int pa_nil)))) (pe_op op_sub (pv 2) pe_int) (fun _ _ => rfl)) pa_nil)) (pg_name (i := 4) sc_law_name.nd rfl (Or.inl rfl)) (pss_one (ps_set (i := 3) sc_law_name.nd rfl (Or.inl rfl) (pe_op op_add_str (pv 3) (pe_ix ix_str pe_str (pe_call G_law_take (hr.mono (by decide)) (by rfl) T.g_law_take k_law_take b_law_take .nil pass0 (pa_cons (pv 0) (pa_cons pe_int pa_nil))) (fun _ _ => rfl)))))))) pss_nil)
    (pss_cons (ps_if (pt_cmpR op_notIn_seq (pv 3) (pv 1) (by rfl)) (pss_one (ps_ret (pv 3))) pss_nil)
    (pss_one (ps_ret (pe_ix ix_list (pe_lc (own := [("_law_one", 5)]) (g := gName 5) (by rfl) sc_law_name.nd (pi_list (pe_op op_cat (pe_callTy (call_listS (by rfl)) (by rfl) T.b_list boot_list (pa_cons pe_str pa_nil)) (pe_lst (pa_cons pe_str (pa_cons pe_str (pa_cons pe_str (pa_cons pe_str (pa_cons pe_str pa_nil)))))))) (blkOk_by (N := n_law_name) (sc := defScope d_law_name) (own := [("_law_one", 5)]) (by decide +kernel)) (fun _ _ _ _ _ => (pg_name (i := 5) sc_law_name.nd rfl (Or.inl rfl) (.inr rfl))) (fun _ _ _ _ _ => (pts_one (pt_cmpR (op_notIn_seqK (K := K) rfl) (pv 5) (pv 1) (by rfl)))) (fun _ _ _ _ _ => (pv 5))) pe_int (fun _ _ => rfl)))))))), ?_⟩
  obtain ⟨p, t, f, ts, rfl, rfl, hp, ht, htp, hts, k⟩ := h
  -- way
  refine ⟨_, rfl, take_q hp (by decide) (by decide) fun r H1 r0 r1 hp1 k1 => ?_⟩
  have ht1 := k1 _ _ htp ht
  -- word
  refine ⟨_, rfl, (by show 10 ≤ sizeLine; decide), fun q hq => ?_⟩
  have s2 := same_new (o := .lst [V.str "class", V.str "zooms", V.str "far", V.str "label", V.str "put", V.str "go", V.str "a", V.str "b", V.str "x", V.str "town"]) hq
  refine of_q (hp1.same s2) upd_same (hp1.ne hq) (by decide) (by decide) fun x H2 hx hp2 k2 => ?_
  have kp2 : Kp p H H2 := (k1.trans (Kp.of s2)).trans k2
  obtain ⟨wd, rfl, hwd⟩ : ∃ wd : Str, x = .str wd ∧ isName wd = true := by
    simp only [List.mem_cons, List.not_mem_nil, or_false] at hx
    rcases hx with rfl | rfl | rfl | rfl | rfl | rfl | rfl | rfl | rfl | rfl <;> exact ⟨_, rfl, by decide +kernel⟩
  -- a word by letters
  refine ⟨_, rfl, _, _, rfl, rfl, _, rfl, ?_⟩
  refine ite2 (fun h0 => ?wa) (fun h0 => ?wb)
  case' wa =>
    have h0' : 0 < r := of_decide_eq_true h0
    refine ⟨_, rfl, take_q hp2 (by decide) (by decide) fun j H3 j0 j1 hp3 k3 => ?_⟩
    refine ⟨_, _, rfl, rfl, (by show 3 ≤ sizeLine; decide), fun q3 hq3 => ?_⟩
    have s4 := same_new (o := .lst [V.int 1, V.int (1 + j), V.int 12]) hq3
    obtain ⟨v, hv, hm⟩ := atI_mod (xs := [V.int 1, V.int (1 + j), V.int 12]) (i := r - 1) (n := 3) rfl (by omega) (by omega)
    obtain ⟨n, rfl, hn1, hn2⟩ : ∃ n : Nat, v = .int n ∧ 1 ≤ n ∧ n ≤ 12 := by
      rcases mem3 hm with rfl | rfl | rfl
      · exact ⟨1, rfl, by omega, by omega⟩
      · exact ⟨(1 + j).toNat, congrArg V.int (by omega), by omega, by omega⟩
      · exact ⟨12, rfl, by omega, by omega⟩
    refine ⟨_, rfl, _, _, rfl, rfl, q3, _, _, _, rfl, rfl, SqL.of upd_same, hv, (n : Int), rfl, by omega, by omega, ?_⟩
    refine for_it (walk_range (lo := 0) (n := n)) (fun i σ H4 => ∃ (wd : Str) (o4 : Option V), σ = [some (.ref p), some (.ref t), some (.int r), some (.str wd), o4, none] ∧ Kp p H H4 ∧ Pt p (f + (12 - i)) H4 ∧ allLet wd = true ∧ wd.length = i)
      ⟨"", none, rfl, (kp2.trans k3).trans (Kp.of s4), (hp3.same s4).mono (by omega), by decide +kernel, by decide +kernel⟩ (fun _ _ _ _ _ => trivial) ?_ ?_
    · rintro i x σ H4 H5 hi ⟨wd, o4, rfl, kp4, hp4, hw4, hl4⟩ ⟨rfl, rfl⟩
      refine ⟨_, rfl, _, rfl, take_q (f := f + (12 - (i + 1))) (hp4.mono (by omega)) (by decide) (by decide) fun c H5 c0 c1 hp5 k5 => ?_⟩
      obtain ⟨cc, hcc, hmem⟩ : ∃ cc, atI letL c = some cc ∧ cc ∈ letL := by
        have hl : letL.length = 26 := by decide +kernel
        obtain ⟨j, rfl⟩ : ∃ j : Nat, c = (j : Int) := ⟨c.toNat, by omega⟩
        have hlt : j < letL.length := by omega
        exact ⟨letL[j], atI_nat (List.getElem?_eq_getElem hlt), List.getElem_mem hlt⟩
      refine ⟨_, c, cc, rfl, rfl, by decide +kernel, hcc, _, _, rfl, rfl, ?_, ?_⟩
      · have : (⟨#[cc]⟩ : Str).length = 1 := rfl
        rw [this, hl4, sizeLine_eq]
        omega
      · exact ⟨_, _, rfl, kp4.trans k5, hp5, allLet_app hw4 (sign_let hmem), by rw [len_app, hl4]; rfl⟩
    rintro σ H2 ⟨wd, o4, rfl, kp2, hp2, hw4, hl4⟩
    have hwd : isName wd = true := isName_of (by omega) (by omega) hw4
  all_goals
    have ht2 := kp2 _ _ htp ht
    refine ⟨_, rfl, _, rfl, t, _, rfl, .inl (SqL.of ht2), rfl, flat_strs _, _, rfl, ?_⟩
    rw [notInV]
    by_cases hm : wd ∈ ts
    · rw [decide_eq_false (fun z => z hm)]
      refine ⟨_, rfl, by decide +kernel, fun q4 hq4 => ⟨(by show 5 ≤ sizeLine; decide), fun q5 hq5 => ?_⟩⟩
      have n45 : q4 ≠ q5 := ne_of_none upd_same hq5
      refine ⟨q4, q5, _, _, rfl, rfl, (by rw [upd_ne n45]; exact upd_same), upd_same, by decide +kernel, fun q6 hq6 => ?_⟩
      have hcd : (sgn "abcdefghijklmnopqrstuvwxyz").map V.str ++ [V.str "aa", V.str "bb", V.str "cc", V.str "dd", V.str "ee"] = cand.map V.str := by
        unfold cand
        rw [List.map_append]
        rfl
      rw [hcd]
      have s6 := ((same_new (o := .lst ((sgn "abcdefghijklmnopqrstuvwxyz").map V.str)) hq4).trans (same_new (o := .lst [V.str "aa", V.str "bb", V.str "cc", V.str "dd", V.str "ee"]) hq5)).trans (same_new (o := .lst (cand.map V.str)) hq6)
      have h6 : upd (upd (upd H2 q4 (.lst ((sgn "abcdefghijklmnopqrstuvwxyz").map V.str))) q5 (.lst [V.str "aa", V.str "bb", V.str "cc", V.str "dd", V.str "ee"])) q6 (.lst (cand.map V.str)) q6 = some (.lst (cand.map V.str)) := upd_same
      have ht6 := s6 _ _ ht2
      have kp6 := kp2.trans (Kp.of (p := p) s6)
      have hp6 := hp2.same s6
      generalize upd (upd (upd H2 q4 (.lst ((sgn "abcdefghijklmnopqrstuvwxyz").map V.str))) q5 (.lst [V.str "aa", V.str "bb", V.str "cc", V.str "dd", V.str "ee"])) q6 (.lst (cand.map V.str)) = H6 at h6 ht6 kp6 hp6 ⊢
      refine ⟨q6, rfl, ⟨_, SqL.of h6⟩, fun D hD => ?_⟩
      refine lc_fm (walk_list (xs := cand.map V.str)) (fun i => (cand[i]?).bind fun z => if decide (z ∉ ts) = true then some (V.str z) else none) hD (by decide +kernel) (fun H7 s7 => SqL.of (s7 _ _ h6)) ?_ ?_
      · rintro i v H7 H8 Ky Kn hi s7 ⟨rfl, hv⟩ ky kn
        rw [List.getElem?_map] at hv
        obtain ⟨z, hz, rfl⟩ := Option.map_eq_some_iff.mp hv
        refine ⟨rfl, _, rfl, _, rfl, t, _, rfl, .inl (SqL.of (s7 _ _ ht6)), rfl, flat_strs _, _, rfl, ?_⟩
        rw [notInV]
        by_cases hm : z ∈ ts
        · rw [decide_eq_false (fun y => y hm)]
          refine kn _ ?_ (Same.refl _)
          rw [hz]
          exact if_neg (by simpa using hm)
        · rw [decide_eq_true hm]
          refine ⟨_, rfl, ky _ _ ?_ (Same.refl _)⟩
          rw [hz]
          exact if_pos (decide_eq_true hm)
      · intro H7 s7 hD7
        rw [List.length_map, fm_get, fm_filter] at hD7
        obtain ⟨z, r', e, hz1, hz2⟩ := cand_left hts
        rw [e] at hD7
        exact ⟨D, _, _, _, rfl, rfl, SqL.of hD7, atI_nat (j := 0) rfl, k z H7 hz2 hz1 ((hp6.same s7).mono (by omega)) (kp6.trans (Kp.of s7))⟩
    · rw [decide_eq_true hm]
      exact ⟨_, rfl, k wd H2 hwd hm (hp2.mono (by omega)) kp2⟩
end
end SK

set_option maxHeartbeats 4000000
namespace SL
open PySem PySem.Spec PyProof.Rows L2
theorem adj_snoc {n m : Int} : ∀ {ns : List Int}, adj (ns ++ [n]) = true → m ≤ 2 * n → adj (ns ++ [n, m]) = true
  | [], _, h => by
    show (decide (m ≤ 2 * n) && adj [m]) = true
    rw [decide_eq_true h]
    rfl
  | [a], h, g => by
    have h : (decide (n ≤ 2 * a) && adj [n]) = true := h
    show (decide (n ≤ 2 * a) && (decide (m ≤ 2 * n) && adj [m])) = true
    rw [decide_eq_true g]
    simp only [Bool.and_eq_true] at h
    rw [h.1]
    rfl
  | a :: b :: r, h, g => by
    have h : (decide (b ≤ 2 * a) && adj (b :: r ++ [n])) = true := h
    show (decide (b ≤ 2 * a) && adj (b :: r ++ [n, m])) = true
    simp only [Bool.and_eq_true] at h
    rw [h.1, adj_snoc (ns := b :: r) h.2 g]
    rfl
theorem sizesOk_snoc {ns : List Int} {n m : Int} (h : sizesOk (ns ++ [n]) = true) (h1 : 2 ≤ m) (h2 : m ≤ 9) (h3 : m ≤ 2 * n) : sizesOk (ns ++ [n, m]) = true := by
  unfold sizesOk at *
  simp only [Bool.and_eq_true] at h
  obtain ⟨_, ha, hb⟩ := h
  rw [adj_snoc hb h3]
  have e : ns ++ [n, m] = (ns ++ [n]) ++ [m] := by simp
  rw [e, List.all_append, ha]
  simp [h1, h2]
theorem sizesOk_one {n : Int} (h1 : 2 ≤ n) (h2 : n ≤ 9) : sizesOk [n] = true := by
  unfold sizesOk
  simp [h1, h2, adj]
theorem sizesOk_last {ns : List Int} {n : Int} (h : sizesOk (ns ++ [n]) = true) : 2 ≤ n ∧ n ≤ 9 := by
  unfold sizesOk at h
  simp only [Bool.and_eq_true, List.all_append] at h
  have := h.2.1.2
  simpa using this
def spSizesL : Sp := sp2 fun a b H Q _ => ∃ (p : Addr) (m f : Nat), a = .ref p ∧ b = .int m ∧ 1 ≤ m ∧ m ≤ 5 ∧ Pt p (f + 9) H ∧
  ∀ (t : Addr) (ns : List Int) (H' : Hp), ns.length = m → sizesOk ns = true → Pt p f H' → Kp p H H' → H' t = some (.tup (ns.map V.int)) → Q (.ref t) H'
def clD (r : Row) : PyData := .tuple [.str r.name, .int r.first, .int r.least, .int r.most, .tuple (r.sizes.map .int)]
theorem clD_fz (l : List Row) : fzAll (l.map clD) = true := fzAll_iff.mpr fun d hd => by
  obtain ⟨r, _, rfl⟩ := List.mem_map.mp hd
  simp only [clD, fz, fzAll, Bool.true_and, Bool.and_true]
  exact fzAll_iff.mpr fun d hd => by
    obtain ⟨n, _, rfl⟩ := List.mem_map.mp hd
    rfl
/-- the classes as they stand in a list -/
def ClsAt (H : Hp) (L : Addr) (rows : List Row) : Prop := ∃ vs, H L = some (.lst vs) ∧ RvL H vs (rows.map clD)
theorem ClsAt.kp {p L : Addr} {f : Nat} {H H' : Hp} {rows : List Row} (h : ClsAt H L rows) (hp : Pt p f H) (hL : L ≠ p) (k : Kp p H H') : ClsAt H' L rows := by
  obtain ⟨vs, h1, h2⟩ := h
  exact ⟨vs, k _ _ hL h1, h2.tk (hp.tk k) (clD_fz _)⟩
theorem ClsAt.same {L : Addr} {H H' : Hp} {rows : List Row} (h : ClsAt H L rows) (k : Same H H') : ClsAt H' L rows := by
  obtain ⟨vs, h1, h2⟩ := h
  exact ⟨vs, k _ _ h1, h2.same k⟩
structure RowsOk (z : Int) (rows : List Row) : Prop where
  ok : ∀ r ∈ rows, rowOk r (z - 1) = true
  nd : (rows.map SL.Row.name).Nodup
def spClassesL : Sp := sp3 fun a b c H Q _ => ∃ (p : Addr) (z : Int) (m f : Nat), a = .ref p ∧ b = .int z ∧ c = .int m ∧ 1 ≤ z ∧ z ≤ 5 ∧ 1 ≤ m ∧ m ≤ 4 ∧ Pt p (f + 140) H ∧
  ∀ (L : Addr) (rows : List Row) (H' : Hp), 1 ≤ rows.length → rows.length ≤ m → RowsOk z rows → H L = none → L ≠ p → ClsAt H' L rows → Pt p f H' → Kp p H H' → Q (.ref L) H'
theorem Kp.put {p N : Addr} {H H5 : Hp} {o : HO} (k : Kp p H H5) (hN : H N = none) : Kp p H (L2.upd H5 N o) := fun b u hb he => by
  rw [upd_ne (ne_of_none he hN)]
  exact k _ _ hb he
/-- classes under way -/
structure CS (p L N : Addr) (g : Nat) (H H4 : Hp) (rows : List Row) (ns : List Str) : Prop where
  kp : Kp p H H4
  pt : Pt p g H4
  cl : ClsAt H4 L rows
  nm : H4 N = some (.lst (ns.map V.str))
section
variable {p L N : Addr} {g g' : Nat} {H H4 H5 : Hp} {rows : List Row} {ns : List Str}
theorem CS.draw (c : CS p L N g H H4 rows ns) (nL : L ≠ p) (nN : N ≠ p) (k : Kp p H4 H5) (pt : Pt p g' H5) : CS p L N g' H H5 rows ns := ⟨c.kp.trans k, pt, c.cl.kp c.pt nL k, k _ _ nN c.nm⟩
theorem CS.same (c : CS p L N g H H4 rows ns) (s : Same H4 H5) : CS p L N g H H5 rows ns := ⟨c.kp.trans (Kp.of s), c.pt.same s, c.cl.same s, s _ _ c.nm⟩
theorem CS.name (c : CS p L N g H H4 rows ns) (nN : N ≠ p) (nLN : L ≠ N) (hN : H N = none) (z : Str) : CS p L N g H (upd H4 N (.lst (ns.map V.str ++ [.str z]))) rows (ns ++ [z]) := by
  refine ⟨c.kp.put hN, c.pt.upd nN, ?_, by rw [upd_same, List.map_append]; rfl⟩
  obtain ⟨vs, h1, h2⟩ := c.cl
  exact ⟨vs, by rw [upd_ne nLN]; exact h1, h2.tk (Tk.updL c.nm) (clD_fz _)⟩
theorem CS.row (c : CS p L N g H H4 rows ns) (nL : L ≠ p) (nLN : L ≠ N) (hL : H L = none) {r : Row} {vs : List V} {v : V} (hv : H4 L = some (.lst vs)) (rv : Rv H4 v (clD r)) : CS p L N g H (upd H4 L (.lst (vs ++ [v]))) (rows ++ [r]) ns := by
  refine ⟨c.kp.put hL, c.pt.upd nL, ?_, by rw [upd_ne nLN.symm]; exact c.nm⟩
  obtain ⟨ws, h1, h2⟩ := c.cl
  rw [hv] at h1
  cases h1
  refine ⟨_, upd_same, ?_⟩
  rw [List.map_append]
  have f1 : fz (clD r) = true := by
    have := clD_fz [r]
    simpa [fzAll] using this
  exact (h2.tk (Tk.updL hv) (clD_fz _)).snoc (rv.tk (Tk.updL hv) f1)
end
theorem RowsOk.snoc {z : Int} {rows : List Row} {r : Row} (h : RowsOk z rows) (hr : rowOk r (z - 1) = true) (hn : r.name ∉ rows.map SL.Row.name) : RowsOk z (rows ++ [r]) := by
  refine ⟨fun q hq => ?_, ?_⟩
  · rcases List.mem_append.mp hq with hq | hq
    · exact h.ok q hq
    · rw [List.mem_singleton.mp hq]
      exact hr
  · rw [List.map_append, List.nodup_append]
    refine ⟨h.nd, by simp, fun a ha b hb => ?_⟩
    rw [List.map_singleton] at hb
    rw [List.mem_singleton.mp hb]
    exact fun e => hn (by rw [← e]; exact ha)
end SL
namespace SK
open PySem PySem.Spec PyProof.Rows L2 SL
section
variable {w : World} {K : PySem.W.Frag} {mg : Str → Option Value} {base : Heap}
abbrev n_law_sizes : List Str := ["_law_pot_here", "_law_many", "_law_found", "_law_turn", "_law_top"]
theorem sc_law_sizes : FnScope n_law_sizes ["_law_pot_here", "_law_many"] (defScope d_law_sizes) := ⟨rfl, rfl, rfl, by decide +kernel, rfl, by decide +kernel, by decide +kernel⟩
theorem ok_law_sizes (T : Top w K mg) : Has prg w K mg base CX0 3 (He.ga K "_law_sizes") ["_law_pot_here", "_law_many"] spSizesL := by
  obtain ⟨fd, F⟩ := T.F_law_sizes
  obtain ⟨fd_law_take, G_law_take, b_law_take, k_law_take⟩ := ok_law_take (base := base) T
  obtain ⟨fd_law_of, G_law_of, b_law_of, k_law_of⟩ := ok_law_of (base := base) T
  refine ⟨fd, F.ok (k := 2) sc_law_sizes (fun _ _ _ _ h => sp2_len h) (fun cdv A outer s H vs Q E hr h => ?_), F.bindsN (fun _ _ _ _ _ _ us hl => match us, hl with | [_, _], _ => rfl), F.kp⟩
  obtain ⟨v0, v1, rfl, h⟩ := h
  refine ⟨_, PSs.nox (pss_cons (ps_set (i := 2) sc_law_sizes.nd rfl (Or.inl rfl) (pe_lst (pa_cons (pe_op op_add pe_int (pe_call G_law_take (hr.mono (by decide)) (by rfl) T.g_law_take k_law_take b_law_take .nil pass0 (pa_cons (pv 0) (pa_cons pe_int pa_nil)))) pa_nil)))
    (pss_cons (ps_for PassesOwn.never rfl (pi_range1 (by rfl) T.b_range (pa_cons (pe_op op_sub (pv 1) pe_int) pa_nil)) (pg_name (i := 3) sc_law_sizes.nd rfl (Or.inl rfl)) (pss_cons (ps_set (i := 4) sc_law_sizes.nd rfl (Or.inl rfl) (pe_callB (call_min2 (by rfl)) (by rfl) T.b_min (by decide +kernel) (pa_cons pe_int (pa_cons (pe_callTy call_int1 (by rfl) T.b_int boot_int (pa_cons (pe_op op_mul pe_int (pe_ix ix_list (pv 2) (pe_un un_neg pe_int) (fun _ _ => rfl))) pa_nil)) pa_nil))))
    (pss_one (ps_expr (pe_bm PySem.F.plainAttrs_list PySem.F.slot_list_append PySem.F.type_list_append mt_append (pv 2) (pa_cons (pe_call G_law_of (hr.mono (by decide)) (by rfl) T.g_law_of k_law_of b_law_of .nil pass0 (pa_cons (pv 0) (pa_cons (pe_lst (pa_cons (pv 4) (pa_cons (pe_ix ix_list (pv 2) (pe_un un_neg pe_int) (fun _ _ => rfl)) (pa_cons (pe_op op_add pe_int (pe_call G_law_take (hr.mono (by decide)) (by rfl) T.g_law_take k_law_take b_law_take .nil pass0 (pa_cons (pv 0) (pa_cons (pe_op op_sub (pv 4) pe_int) pa_nil)))) pa_nil)))) pa_nil))) pa_nil))))))
    (pss_one (ps_ret (pe_callTy call_tuple_of (by rfl) T.b_tuple boot_tuple (pa_cons (pv 2) pa_nil)))))), ?_⟩
  obtain ⟨p, m, f, rfl, rfl, hm1, hm2, hp, k⟩ := h
  refine ⟨_, rfl, take_q hp (by decide) (by decide) fun r H1 r0 r1 hp1 k1 => ?_⟩
  refine ⟨_, _, rfl, rfl, (by show 1 ≤ sizeLine; decide), fun L hL => ?_⟩
  have s2 := same_new (o := .lst [V.int (2 + r)]) hL
  have nL := hp1.ne hL
  refine ⟨_, rfl, _, _, rfl, rfl, _, rfl, by omega, by omega, ?_⟩
  refine for_it (walk_range (lo := 0) (n := ((m : Int) - 1).toNat)) (fun i σ H4 => ∃ (ns : List Int) (n : Int) (o3 o4 : Option V), σ = [some (.ref p), some (.int m), some (.ref L), o3, o4] ∧ Kp p H H4 ∧ Pt p (f + 2 * (4 - i)) H4 ∧ H4 L = some (.lst ((ns ++ [n]).map V.int)) ∧ ns.length = i ∧ sizesOk (ns ++ [n]) = true)
    ⟨[], 2 + r, none, none, rfl, k1.trans (Kp.of s2), (hp1.same s2).mono (by omega), upd_same, rfl, sizesOk_one (by omega) (by omega)⟩ (fun _ _ _ _ _ => trivial) ?_ ?_
  · rintro i x σ H4 H5 hi ⟨ns, n, o3, o4, rfl, kp4, hp4, hL4, hl4, hs4⟩ ⟨rfl, rfl⟩
    obtain ⟨hn1, hn2⟩ := sizesOk_last hs4
    have hat : atI ((ns ++ [n]).map V.int) (-1) = some (V.int n) := by
      rw [List.map_append]
      exact atI_last _ _
    refine ⟨_, rfl, _, rfl, L, _, _, _, rfl, rfl, SqL.of hL4, hat, _, _, rfl, rfl, .inl ⟨by decide, by decide⟩, .inl ⟨_, rfl, _, _, rfl, ?_⟩⟩
    obtain ⟨tp, htp, ht1, ht2, ht3⟩ : ∃ tp, (if 2 * n < 9 then 2 * n else 9) = tp ∧ 4 ≤ tp ∧ tp ≤ 9 ∧ tp ≤ 2 * n := ⟨_, rfl, by split <;> omega, by split <;> omega, by split <;> omega⟩
    rw [htp]
    refine ⟨_, rfl, .inl ⟨rfl, _, SqL.of hL4⟩, _, rfl, _, rfl, _, rfl, _, rfl, L, _, _, _, rfl, rfl, SqL.of hL4, hat, ?_⟩
    refine ⟨_, rfl, _, rfl, _, _, rfl, rfl, take_q (f := f + 2 * (4 - (i + 1)) + 1) (hp4.mono (by omega)) (by omega) (by omega) fun j H6 j0 j1 hp6 k6 => ?_⟩
    refine ⟨_, _, rfl, rfl, (by show 3 ≤ sizeLine; decide), fun q hq => ?_⟩
    have s7 := same_new (o := .lst [V.int tp, V.int n, V.int (2 + j)]) hq
    refine of_q (hp6.same s7) upd_same (hp6.ne hq) (by show 0 < 3; decide) (by show 3 ≤ 1000000; decide) fun v H8 hv hp8 k8 => ?_
    obtain ⟨y, rfl, hy1, hy2, hy3⟩ : ∃ y, v = .int y ∧ 2 ≤ y ∧ y ≤ 9 ∧ y ≤ 2 * n := by
      rcases mem3 hv with rfl | rfl | rfl
      · exact ⟨_, rfl, by omega, by omega, by omega⟩
      · exact ⟨_, rfl, by omega, by omega, by omega⟩
      · exact ⟨_, rfl, by omega, by omega, by omega⟩
    have kp8 := ((kp4.trans k6).trans (Kp.of s7)).trans k8
    have hL8 : H8 L = some (.lst ((ns ++ [n]).map V.int)) := k8 _ _ nL (s7 _ _ (k6 _ _ nL hL4))
    refine ⟨L, _, _, rfl, rfl, hL8, ?_, ?_⟩
    · rw [List.length_map, List.length_append, hl4, sizeLine_eq]
      show i + 1 < _
      omega
    · have hLn : H L = none := by
        cases e : H L with
        | none => rfl
        | some o =>
          rw [k1 _ _ nL e] at hL
          cases hL
      refine ⟨ns ++ [n], y, _, _, rfl, fun b o hb he => ?_, hp8.upd nL, ?_, by rw [List.length_append, hl4]; rfl, ?_⟩
      · rw [upd_ne (ne_of_none he hLn)]
        exact kp8 _ _ hb he
      · rw [upd_same, List.map_append (l₁ := ns ++ [n])]
        rfl
      · rw [List.append_assoc]
        exact sizesOk_snoc hs4 hy1 hy2 hy3
  · rintro σ H4 ⟨ns, n, o3, o4, rfl, kp4, hp4, hL4, hl4, hs4⟩
    refine ⟨_, rfl, L, _, rfl, .inl ⟨SqL.of hL4, fun t ht => ?_⟩⟩
    have s5 := same_new (o := .tup ((ns ++ [n]).map V.int)) ht
    refine k t (ns ++ [n]) _ (by rw [List.length_append, hl4]; show _ + 1 = _; omega) hs4 ((hp4.same s5).mono (by omega)) (kp4.trans (Kp.of s5)) upd_same
abbrev n_law_classes : List Str := ["_law_pot_here", "_law_zooms", "_law_most", "_law_turn", "_law_found", "_law_names", "_law_first", "_law_many", "_law_least"]
theorem sc_law_classes : FnScope n_law_classes ["_law_pot_here", "_law_zooms", "_law_most"] (defScope d_law_classes) := ⟨rfl, rfl, rfl, by decide +kernel, rfl, by decide +kernel, by decide +kernel⟩
theorem ok_law_classes (T : Top w K mg) : Has prg w K mg base CX0 4 (He.ga K "_law_classes") ["_law_pot_here", "_law_zooms", "_law_most"] spClassesL := by
  obtain ⟨fd, F⟩ := T.F_law_classes
  obtain ⟨fd_law_take, G_law_take, b_law_take, k_law_take⟩ := ok_law_take (base := base) T
  obtain ⟨fd_law_name, G_law_name, b_law_name, k_law_name⟩ := ok_law_name (base := base) T
  obtain ⟨fd_law_of, G_law_of, b_law_of, k_law_of⟩ := ok_law_of (base := base) T
  obtain ⟨fd_law_sizes, G_law_sizes, b_law_sizes, k_law_sizes⟩ := ok_law_sizes (base := base) T
  refine ⟨fd, F.ok (k := 3) sc_law_classes (fun _ _ _ _ h => sp3_len h) (fun cdv A outer s H vs Q E hr h => ?_), F.bindsN (fun _ _ _ _ _ _ us hl => match us, hl with | [_, _, _], _ => rfl), F.kp⟩
  obtain ⟨v0, v1, v2, rfl, h⟩ := h
  refine ⟨_, PSs.nox (pss_cons (ps_par (i := 4) (j := 5) (by rfl) sc_law_classes.nd rfl rfl (by decide) rfl rfl (pa_cons (pe_lst pa_nil) (pa_cons (pe_lst pa_nil) pa_nil)) (by rfl))
    (pss_cons (ps_for PassesOwn.never rfl (pi_range1 (by rfl) T.b_range (pa_cons (pe_op op_add pe_int (pe_call G_law_take (hr.mono (by decide)) (by rfl) T.g_law_take k_law_take b_law_take .nil pass0 (pa_cons (pv 0) (pa_cons (pv 2) pa_nil)))) pa_nil)) (pg_name (i := 3) sc_law_classes.nd rfl (Or.inl rfl)) (pss_cons (ps_expr (pe_bm PySem.F.plainAttrs_list PySem.F.slot_list_append PySem.F.type_list_append mt_append (pv 5) (pa_cons (pe_call G_law_name (hr.mono (by decide)) (by rfl) T.g_law_name k_law_name b_law_name .nil pass0 (pa_cons (pv 0) (pa_cons (pv 5) pa_nil))) pa_nil)))
    (pss_cons (ps_set (i := 6) sc_law_classes.nd rfl (Or.inl rfl) (pe_call G_law_of (hr.mono (by decide)) (by rfl) T.g_law_of k_law_of b_law_of .nil pass0 (pa_cons (pv 0) (pa_cons (pe_lst (pa_cons pe_int (pa_cons pe_int (pa_cons (pe_call G_law_take (hr.mono (by decide)) (by rfl) T.g_law_take k_law_take b_law_take .nil pass0 (pa_cons (pv 0) (pa_cons (pv 1) pa_nil))) pa_nil)))) pa_nil))))
    (pss_cons (ps_set (i := 7) sc_law_classes.nd rfl (Or.inl rfl) (pe_call G_law_of (hr.mono (by decide)) (by rfl) T.g_law_of k_law_of b_law_of .nil pass0 (pa_cons (pv 0) (pa_cons (pe_lst (pa_cons (pe_op op_sub (pv 1) (pv 6)) (pa_cons (pe_op op_sub (pv 1) (pv 6)) (pa_cons (pe_op op_add pe_int (pe_call G_law_take (hr.mono (by decide)) (by rfl) T.g_law_take k_law_take b_law_take .nil pass0 (pa_cons (pv 0) (pa_cons (pe_op op_sub (pv 1) (pv 6)) pa_nil)))) pa_nil)))) pa_nil))))
    (pss_cons (ps_set (i := 8) sc_law_classes.nd rfl (Or.inl rfl) (pe_call G_law_of (hr.mono (by decide)) (by rfl) T.g_law_of k_law_of b_law_of .nil pass0 (pa_cons (pv 0) (pa_cons (pe_lst (pa_cons pe_int (pa_cons pe_int (pa_cons pe_int (pa_cons (pe_op op_add pe_int (pe_call G_law_take (hr.mono (by decide)) (by rfl) T.g_law_take k_law_take b_law_take .nil pass0 (pa_cons (pv 0) (pa_cons pe_int pa_nil)))) pa_nil))))) pa_nil))))
    (pss_one (ps_expr (pe_bm PySem.F.plainAttrs_list PySem.F.slot_list_append PySem.F.type_list_append mt_append (pv 4) (pa_cons (pe_tup (pa_cons (pe_ix ix_list (pv 5) (pe_un un_neg pe_int) (fun _ _ => rfl)) (pa_cons (pv 6) (pa_cons (pv 8) (pa_cons (pe_op op_add (pv 8) (pe_call G_law_take (hr.mono (by decide)) (by rfl) T.g_law_take k_law_take b_law_take .nil pass0 (pa_cons (pv 0) (pa_cons pe_int pa_nil)))) (pa_cons (pe_call G_law_sizes (hr.mono (by decide)) (by rfl) T.g_law_sizes k_law_sizes b_law_sizes .nil pass0 (pa_cons (pv 0) (pa_cons (pv 7) pa_nil))) pa_nil)))))) pa_nil)))))))))
    (pss_one (ps_ret (pv 4))))), ?_⟩
  obtain ⟨p, z, m, f, rfl, rfl, rfl, hz1, hz2, hm1, hm2, hp, k⟩ := h
  refine ⟨(by show 0 ≤ sizeLine; decide), fun L hL => ⟨(by show 0 ≤ sizeLine; decide), fun N hN => ?_⟩⟩
  have s1 := same_new (o := .lst []) hL
  have s2 := same_new (o := .lst []) hN
  have hL2 := s2 _ _ (show upd H L (.lst []) L = some (.lst []) from upd_same)
  have nL : L ≠ p := hp.ne hL
  have hp1 := (hp.same s1)
  have nN : N ≠ p := hp1.ne hN
  have nLN : L ≠ N := ne_of_none (show upd H L (.lst []) L = some (.lst []) from upd_same) hN
  have hNn : H N = none := s1.free hN
  have c2 : CS p L N (f + 140) H (upd (upd H L (.lst [])) N (.lst [])) [] [] := ⟨(Kp.of s1).trans (Kp.of s2), hp1.same s2, ⟨[], hL2, .nil⟩, upd_same⟩
  generalize upd (upd H L (.lst [])) N (.lst []) = H2 at c2 ⊢
  refine ⟨_, _, rfl, _, rfl, _, rfl, take_q c2.pt (by omega) (by omega) fun j H3 j0 j1 hp3 k3 => ?_⟩
  have c3 := c2.draw nL nN k3 hp3
  obtain ⟨cn, rfl⟩ : ∃ cn : Nat, j = (cn : Int) := ⟨j.toNat, by omega⟩
  refine ⟨_, _, rfl, rfl, _, rfl, by omega, by omega, ?_⟩
  refine for_it (walk_range (lo := 0) (n := (1 + (cn : Int)).toNat)) (fun i σ H4 => ∃ (rows : List SL.Row) (o3 o6 o7 o8 : Option V), σ = [some (.ref p), some (.int z), some (.int m), o3, some (.ref L), some (.ref N), o6, o7, o8] ∧
      CS p L N (f + 34 * (4 - i)) H H4 rows (rows.map SL.Row.name) ∧ rows.length = i ∧ RowsOk z rows)
    ⟨[], _, _, _, _, rfl, ⟨c3.kp, c3.pt.mono (by omega), c3.cl, c3.nm⟩, rfl, ⟨fun _ h => absurd h List.not_mem_nil, List.nodup_nil⟩⟩ (fun _ _ _ _ _ => trivial) ?_ ?_
  · rintro i x σ H4 H5 hi ⟨rows, o3, o6, o7, o8, rfl, c4, hl4, ok4⟩ ⟨rfl, rfl⟩
    obtain ⟨g, hg⟩ : ∃ g, g = f + 34 * (4 - (i + 1)) := ⟨_, rfl⟩
    -- the name
    refine ⟨_, rfl, .inl ⟨rfl, _, SqL.of c4.nm⟩, _, rfl, _, rfl, _, _, rfl, p, N, g + 19, rows.map SL.Row.name, rfl, rfl, c4.pt.mono (by omega), c4.nm, nN, by rw [List.length_map]; omega, fun nm H5 hnm hnew hp5 k5 => ?_⟩
    have c5 := c4.draw nL nN k5 hp5
    refine ⟨N, _, _, rfl, rfl, c5.nm, by rw [List.length_map, List.length_map, sizeLine_eq]; omega, ?_⟩
    have c6 := c5.name nN nLN hNn nm
    generalize upd H5 N (.lst ((rows.map SL.Row.name).map V.str ++ [.str nm])) = H6 at c6 ⊢
    -- first
    refine ⟨_, rfl, _, rfl, _, rfl, take_q c6.pt (by omega) (by omega) fun j H7 j0 j1 hp7 k7 => ?_⟩
    have c7 := c6.draw nL nN k7 hp7
    refine ⟨(by show 3 ≤ sizeLine; decide), fun q hq => ?_⟩
    have c8 := c7.same (same_new (o := .lst [V.int 0, V.int 0, V.int j]) hq)
    refine of_q c8.pt upd_same (c7.pt.ne hq) (by show 0 < 3; decide) (by show 3 ≤ 1000000; decide) fun v H9 hv hp9 k9 => ?_
    have c9 := c8.draw nL nN k9 hp9
    obtain ⟨fi, rfl, hfi0, hfi1⟩ : ∃ fi, v = .int fi ∧ 0 ≤ fi ∧ fi < z := by
      rcases mem3 hv with rfl | rfl | rfl
      · exact ⟨_, rfl, by omega, by omega⟩
      · exact ⟨_, rfl, by omega, by omega⟩
      · exact ⟨_, rfl, by omega, by omega⟩
    -- many
    refine ⟨_, rfl, _, rfl, _, rfl, _, _, rfl, rfl, _, rfl, _, rfl, _, _, rfl, rfl, _, rfl, _, rfl, _, rfl, _, _, rfl, rfl, take_q c9.pt (by omega) (by omega) fun j H10 j0 j1 hp10 k10 => ?_⟩
    have c10 := c9.draw nL nN k10 hp10
    refine ⟨_, _, rfl, rfl, (by show 3 ≤ sizeLine; decide), fun q hq => ?_⟩
    have c11 := c10.same (same_new (o := .lst [V.int (z - fi), V.int (z - fi), V.int (1 + j)]) hq)
    refine of_q c11.pt upd_same (c10.pt.ne hq) (by show 0 < 3; decide) (by show 3 ≤ 1000000; decide) fun v H12 hv hp12 k12 => ?_
    have c12 := c11.draw nL nN k12 hp12
    obtain ⟨mn, rfl, hmn0, hmn1⟩ : ∃ mn : Nat, v = .int mn ∧ 1 ≤ mn ∧ mn ≤ z - fi := by
      rcases mem3 hv with rfl | rfl | rfl
      · exact ⟨(z - fi).toNat, congrArg V.int (by omega), by omega, by omega⟩
      · exact ⟨(z - fi).toNat, congrArg V.int (by omega), by omega, by omega⟩
      · exact ⟨(1 + j).toNat, congrArg V.int (by omega), by omega, by omega⟩
    -- least
    refine ⟨_, rfl, _, rfl, take_q c12.pt (by decide) (by decide) fun j H13 j0 j1 hp13 k13 => ?_⟩
    have c13 := c12.draw nL nN k13 hp13
    refine ⟨_, _, rfl, rfl, (by show 4 ≤ sizeLine; decide), fun q hq => ?_⟩
    have c14 := c13.same (same_new (o := .lst [V.int 1, V.int 2, V.int 3, V.int (1 + j)]) hq)
    refine of_q c14.pt upd_same (c13.pt.ne hq) (by show 0 < 4; decide) (by show 4 ≤ 1000000; decide) fun v H15 hv hp15 k15 => ?_
    have c15 := c14.draw nL nN k15 hp15
    obtain ⟨le, rfl, hle0, hle1⟩ : ∃ le, v = .int le ∧ 1 ≤ le ∧ le ≤ 9 := by
      simp only [List.mem_cons, List.not_mem_nil, or_false] at hv
      rcases hv with rfl | rfl | rfl | rfl
      · exact ⟨_, rfl, by omega, by omega⟩
      · exact ⟨_, rfl, by omega, by omega⟩
      · exact ⟨_, rfl, by omega, by omega⟩
      · exact ⟨_, rfl, by omega, by omega⟩
    -- the row
    obtain ⟨vs, hv15, _⟩ := c15.cl
    have hat : atI ((rows.map SL.Row.name ++ [nm]).map V.str) (-1) = some (V.str nm) := by
      rw [List.map_append]
      exact atI_last _ _
    refine ⟨_, rfl, .inl ⟨rfl, _, SqL.of hv15⟩, _, rfl, _, rfl, N, _, _, _, rfl, rfl, SqL.of c15.nm, hat, _, rfl, _, rfl, _, rfl, _, rfl, take_q (f := g + 9) (c15.pt.mono (by omega)) (by decide) (by decide) fun j H16 j0 j1 hp16 k16 => ?_⟩
    have c16 := c15.draw nL nN k16 hp16
    refine ⟨_, _, rfl, rfl, _, rfl, _, rfl, _, _, rfl, p, mn, g, rfl, rfl, hmn0, by omega, c16.pt, fun t ns H17 hns hok hp17 k17 ht17 => ?_⟩
    have c17 := c16.draw nL nN k17 hp17
    refine ⟨(by show 5 ≤ sizeLine; decide), fun q hq => ?_⟩
    have s18 := same_new (o := .tup [V.str nm, V.int fi, V.int le, V.int (le + j), V.ref t]) hq
    have c18 := c17.same s18
    have hv18 := s18 _ _ (k17 _ _ nL (k16 _ _ nL hv15))
    have rv : Rv (upd H17 q (.tup [V.str nm, V.int fi, V.int le, V.int (le + j), V.ref t])) (.ref q) (clD ⟨nm, fi, le, le + j, ns⟩) := .tup upd_same (.cons (.str _) (.cons (.int _) (.cons (.int _) (.cons (.int _) (.cons (.tup (s18 _ _ ht17) (RvL.ints _ _)) .nil)))))
    have hvl : vs.length = i := by
      obtain ⟨ws, g1, g2⟩ := c15.cl
      rw [hv15] at g1
      cases g1
      rw [g2.length, List.length_map, hl4]
    refine ⟨L, _, _, rfl, rfl, hv18, by rw [hvl, sizeLine_eq]; omega, ?_⟩
    refine ⟨rows ++ [⟨nm, fi, le, le + j, ns⟩], _, _, _, _, rfl, ?_, by rw [List.length_append, hl4]; rfl, ?_⟩
    · have := c18.row nL nLN hL hv18 rv
      rw [List.map_append, ← hg]
      exact this
    · refine ok4.snoc (rowOk_iff.mpr ⟨hnm, hfi0, hok, ?_, hle0, hle1, by show le ≤ le + j; omega, by show le + j ≤ le + 3; omega⟩) hnew
      show fi + (ns.length : Int) - 1 ≤ z - 1
      omega
  · rintro σ H4 ⟨rows, o3, o6, o7, o8, rfl, c4, hl4, ok4⟩
    exact ⟨_, rfl, k L rows H4 (by omega) (by omega) ok4 hL nL c4.cl (c4.pt.mono (by omega)) c4.kp⟩
end
end SK

set_option maxHeartbeats 4000000
/-! the text of a drawn style is read back -/
namespace SL
open PySem PySem.Spec PyProof.Rows L2 TL
structure Lore where
  zooms : Int
  rows : List Row
  beside : List (Nat × Nat)
  far : List ((Nat × Nat) × Int)
def allPairs (m : Nat) : List (Nat × Nat) := (List.range m).flatMap fun i => (List.range (m - i)).map fun k => (i, i + k)
structure LoreOk (lo : Lore) : Prop where
  z1 : 1 ≤ lo.zooms
  z5 : lo.zooms ≤ 5
  r1 : 1 ≤ lo.rows.length
  r4 : lo.rows.length ≤ 4
  rows : RowsOk lo.zooms lo.rows
  be : lo.beside.Sublist (allPairs lo.rows.length)
  fa : (lo.far.map (·.1)).Sublist (allPairs lo.rows.length)
  di : ∀ p ∈ lo.far, 1 ≤ p.2 ∧ p.2 ≤ 9999
def numS (n : Int) : Str := toString n
theorem numL_head : ∀ n : Nat, 0 < n → (numL n).head? ≠ some 48
  | n, h => by
    by_cases hl : n < 10
    · rw [numL_lt hl]
      simp
      omega
    · rw [numL_step (by omega)]
      have ih := numL_head (n / 10) (by omega)
      have hne := numL_ne (n / 10)
      cases e : numL (n / 10) with
      | nil => exact absurd e hne
      | cons a b =>
        rw [e] at ih
        exact ih
theorem num_ok {n : Int} (h0 : 0 ≤ n) (h1 : n < 10 ^ 9) : wholeIn (numS n) = some n ∧ allFig (numS n) = true ∧ (numS n).length ≤ 9 := by
  obtain ⟨m, rfl⟩ := Int.eq_ofNat_of_zero_le h0
  have hl : (numL m).length ≤ 9 := numL_len (by decide) (by omega)
  have et : tl (numS (m : Int)) = numL m := tl_num m
  have g2 : allFig (numS (m : Int)) = true := by
    unfold allFig
    rw [List.all_eq_true]
    intro c hc
    rw [show (numS (m : Int)).cps.toList = numL m from et] at hc
    have := numL_digits m c hc
    exact decide_eq_true (fig_of this.1 this.2)
  refine ⟨?_, g2, by rw [TL.len_tl, et]; exact hl⟩
  have hr : intText? (numS (m : Int)) = some (m : Int) := int_num (by omega)
  have g1 : numS (m : Int) ≠ "" := fun z => by
    rw [z] at et
    exact numL_ne m et.symm
  have g3 : numS (m : Int) = "0" ∨ (numS (m : Int)).cps.toList.head? ≠ some 48 := by
    rw [show (numS (m : Int)).cps.toList = numL m from et]
    by_cases hm : m = 0
    · subst hm
      exact .inl (by decide +kernel)
    · exact .inr (numL_head m (by omega))
  unfold wholeIn
  rw [if_neg (fun z => by
    rcases z with z | z
    · exact g1 z
    · rw [g2] at z
      cases z), if_pos g3]
  exact hr
def clean (z : Str) : Prop := 32 ∉ tl z ∧ 10 ∉ tl z
theorem clean_fig {z : Str} (h : allFig z = true) : clean z := by
  have : ∀ c ∈ tl z, 48 ≤ c := fun c hc => (fig_ok (of_decide_eq_true (List.all_eq_true.mp h c hc))).1
  exact ⟨fun c => by have := this _ c; omega, fun c => by have := this _ c; omega⟩
theorem clean_name {z : Str} (h : isName z = true) : clean z := by
  unfold isName at h
  simp only [Bool.and_eq_true] at h
  have : ∀ c ∈ tl z, 97 ≤ c := fun c hc => (let_ok (of_decide_eq_true (List.all_eq_true.mp h.2 c hc))).1
  exact ⟨fun c => by have := this _ c; omega, fun c => by have := this _ c; omega⟩
theorem name_len {z : Str} (h : isName z = true) : z.length ≤ 12 := by
  unfold isName at h
  simp only [Bool.and_eq_true, decide_eq_true_eq] at h
  exact h.1.2
theorem tl_sp : tl (" " : Str) = [32] := by decide +kernel
theorem tl_nl : tl ("\n" : Str) = [10] := by decide +kernel
theorem mem_joinL {c : Nat} {S : List Nat} : ∀ {ps : List (List Nat)}, c ∈ joinL S ps → c ∈ S ∨ ∃ p ∈ ps, c ∈ p
  | [], h => by cases h
  | [p], h => .inr ⟨p, by simp, h⟩
  | p :: q :: r, h => by
    have h' : c ∈ p ++ (S ++ joinL S (q :: r)) := h
    rcases List.mem_append.mp h' with h1 | h1
    · exact .inr ⟨p, by simp, h1⟩
    · rcases List.mem_append.mp h1 with h2 | h2
      · exact .inl h2
      · rcases mem_joinL h2 with h3 | ⟨p', hp, hc⟩
        · exact .inl h3
        · exact .inr ⟨p', List.mem_cons_of_mem _ hp, hc⟩
def lineOf (ws : List Str) : Str := Txt.join " " ws
theorem line_split {ws : List Str} (hne : ws ≠ []) (hc : ∀ w ∈ ws, clean w) : Txt.split (lineOf ws) " " = ws := split_join (s := 32) (S := []) tl_sp (by decide +kernel) hne fun p hp => (hc p hp).1
theorem line_nl {ws : List Str} (hc : ∀ w ∈ ws, clean w) : 10 ∉ tl (lineOf ws) := fun h => by
  unfold lineOf at h
  rw [join_eq, tl_join, tl_sp] at h
  rcases mem_joinL h with h1 | ⟨p, hp, h1⟩
  · simp at h1
  · obtain ⟨z, hz, rfl⟩ := List.mem_map.mp hp
    exact (hc z hz).2 h1
theorem joinL_len {S : List Nat} {B : Nat} : ∀ {ps : List (List Nat)}, (∀ p ∈ ps, p.length ≤ B) → (joinL S ps).length ≤ ps.length * (B + S.length)
  | [], _ => by show 0 ≤ _; omega
  | [p], h => by
    show p.length ≤ 1 * _
    have := h p (by simp)
    omega
  | p :: q :: r, h => by
    show (p ++ (S ++ joinL S (q :: r))).length ≤ _
    have h1 := h p (by simp)
    have h2 := joinL_len (S := S) (B := B) (ps := q :: r) fun z hz => h z (List.mem_cons_of_mem _ hz)
    rw [List.length_append, List.length_append, List.length_cons (a := p), Nat.add_mul]
    omega
theorem join_len {y : Str} {ws : List Str} {B : Nat} (h : ∀ w ∈ ws, w.length ≤ B) : (Txt.join y ws).length ≤ ws.length * (B + y.length) := by
  rw [len_tl, join_eq, tl_join, len_tl y]
  refine Nat.le_trans (joinL_len (B := B) fun p hp => ?_) (by rw [List.length_map]; exact Nat.le_refl _)
  obtain ⟨z, hz, rfl⟩ := List.mem_map.mp hp
  rw [← len_tl]
  exact h z hz
/-! words of the lines -/
def wZ (lo : Lore) : List Str := ["zooms", numS lo.zooms]
def wC (r : Row) : List Str := ([("class" : Str), r.name, numS r.first, numS r.least, numS r.most] : List Str) ++ r.sizes.map numS
def nmAt (rows : List Row) (i : Nat) : Str := ((rows[i]?).map (·.name)).getD ""
def wB (rows : List Row) (p : Nat × Nat) : List Str := ["beside", nmAt rows p.1, nmAt rows p.2]
def wF (rows : List Row) (p : (Nat × Nat) × Int) : List Str := ["far", nmAt rows p.1.1, nmAt rows p.1.2, numS p.2]
def linesOf (lo : Lore) : List (List Str) := wZ lo :: (lo.rows.map wC ++ (lo.beside.map (wB lo.rows) ++ lo.far.map (wF lo.rows)))
def textOf (lo : Lore) : Str := Txt.join "\n" ((linesOf lo).map lineOf)
def shortW (w : Str) : Prop := clean w ∧ w.length ≤ 12
theorem short_num {n : Int} (h0 : 0 ≤ n) (h1 : n < 10000) : shortW (numS n) := by
  obtain ⟨_, h2, h3⟩ := num_ok h0 (by omega)
  exact ⟨clean_fig h2, by omega⟩
theorem short_name {z : Str} (h : isName z = true) : shortW z := ⟨clean_name h, name_len h⟩
theorem short_zooms : shortW "zooms" := short_name (by decide +kernel)
theorem short_class : shortW "class" := short_name (by decide +kernel)
theorem short_beside : shortW "beside" := short_name (by decide +kernel)
theorem short_far : shortW "far" := short_name (by decide +kernel)
theorem allPairs_lt {m : Nat} {p : Nat × Nat} (h : p ∈ allPairs m) : p.1 ≤ p.2 ∧ p.2 < m := by
  unfold allPairs at h
  obtain ⟨i, hi, h2⟩ := List.mem_flatMap.mp h
  obtain ⟨k, hk, rfl⟩ := List.mem_map.mp h2
  rw [List.mem_range] at hi hk
  exact ⟨by show i ≤ i + k; omega, by show i + k < m; omega⟩
theorem asc_dec (l : List (Nat × Nat)) (h : l.Pairwise (fun p q => pairLe q p = false) ) : Asc l := h
theorem allPairs_asc {m : Nat} (h : m ≤ 4) : Asc (allPairs m) := by
  have : ∀ m : Fin 5, (allPairs m.val).Pairwise fun p q => pairLe q p = false := by decide +kernel
  exact this ⟨m, by omega⟩
theorem allPairs_len {m : Nat} (h : m ≤ 4) : (allPairs m).length ≤ 10 := by
  have : ∀ m : Fin 5, (allPairs m.val).length ≤ 10 := by decide +kernel
  exact this ⟨m, by omega⟩
theorem nmAt_get {rows : List Row} {i : Nat} (h : i < rows.length) : rows[i]? = some rows[i] ∧ nmAt rows i = rows[i].name := by
  have e := List.getElem?_eq_getElem h
  refine ⟨e, ?_⟩
  unfold nmAt
  rw [e]
  rfl
theorem sizes_rng {ns : List Int} (h : sizesOk ns = true) {n : Int} (hn : n ∈ ns) : 2 ≤ n ∧ n ≤ 9 := by
  unfold sizesOk at h
  simp only [Bool.and_eq_true] at h
  have := List.all_eq_true.mp h.2.1 n hn
  simpa using this
theorem LoreOk.nm {lo : Lore} (h : LoreOk lo) {i : Nat} (hi : i < lo.rows.length) : isName (nmAt lo.rows i) = true := by
  rw [(nmAt_get hi).2]
  exact (rowOk_iff.mp (h.rows.ok _ (List.getElem_mem hi))).1
theorem LoreOk.short {lo : Lore} (h : LoreOk lo) : ∀ ws ∈ linesOf lo, ws ≠ [] ∧ ws.length ≤ 10 ∧ ∀ w ∈ ws, shortW w := by
  intro ws hws
  unfold linesOf at hws
  have hz1 := h.z1
  have hz5 := h.z5
  simp only [List.mem_cons, List.mem_append, List.mem_map] at hws
  rcases hws with rfl | ⟨r, hr, rfl⟩ | ⟨p, hp, rfl⟩ | ⟨p, hp, rfl⟩
  · refine ⟨by simp [wZ], by simp [wZ], fun w hw => ?_⟩
    simp only [wZ, List.mem_cons, List.not_mem_nil, or_false] at hw
    rcases hw with rfl | rfl
    · exact short_zooms
    · exact short_num (by omega) (by omega)
  · obtain ⟨r1, r2, r3, r4, r5, r6, r7, r8⟩ := rowOk_iff.mp (h.rows.ok r hr)
    refine ⟨by simp [wC], ?_, fun w hw => ?_⟩
    · simp only [wC, List.length_append, List.length_map, List.length_cons, List.length_nil]
      omega
    · simp only [wC, List.cons_append, List.nil_append, List.mem_cons, List.mem_map] at hw
      have := sizesOk_pos r3
      rcases hw with rfl | rfl | rfl | rfl | rfl | ⟨n, hn, rfl⟩
      · exact short_class
      · exact short_name r1
      · exact short_num (by omega) (by omega)
      · exact short_num (by omega) (by omega)
      · exact short_num (by omega) (by omega)
      · have := sizes_rng r3 hn
        exact short_num (by omega) (by omega)
  · have hm := allPairs_lt (h.be.subset hp)
    refine ⟨by simp [wB], by simp [wB], fun w hw => ?_⟩
    simp only [wB, List.mem_cons, List.not_mem_nil, or_false] at hw
    rcases hw with rfl | rfl | rfl
    · exact short_beside
    · exact short_name (h.nm (by omega))
    · exact short_name (h.nm (by omega))
  · have hm := allPairs_lt (h.fa.subset (List.mem_map.mpr ⟨p, hp, rfl⟩))
    have hd := h.di p hp
    refine ⟨by simp [wF], by simp [wF], fun w hw => ?_⟩
    simp only [wF, List.mem_cons, List.not_mem_nil, or_false] at hw
    rcases hw with rfl | rfl | rfl | rfl
    · exact short_far
    · exact short_name (h.nm (by omega))
    · exact short_name (h.nm (by omega))
    · exact short_num (by omega) (by omega)
theorem LoreOk.count {lo : Lore} (h : LoreOk lo) : (linesOf lo).length ≤ 25 := by
  have h1 := h.be.length_le
  have h2 := h.fa.length_le
  have h3 := allPairs_len h.r4
  have h4 := h.r4
  rw [List.length_map] at h2
  simp only [linesOf, List.length_cons, List.length_append, List.length_map]
  omega
theorem LoreOk.split {lo : Lore} (h : LoreOk lo) : Txt.split (textOf lo) "\n" = (linesOf lo).map lineOf := by
  refine split_join (s := 10) (S := []) tl_nl (by decide +kernel) (by simp [linesOf]) fun p hp => ?_
  obtain ⟨ws, hws, rfl⟩ := List.mem_map.mp hp
  exact line_nl fun w hw => ((h.short ws hws).2.2 w hw).1
theorem LoreOk.lineLen {lo : Lore} (h : LoreOk lo) : ∀ ws ∈ linesOf lo, (lineOf ws).length ≤ 130 := fun ws hws => by
  obtain ⟨_, h2, h3⟩ := h.short ws hws
  refine Nat.le_trans (join_len (B := 12) fun w hw => (h3 w hw).2) ?_
  have : (" " : Str).length = 1 := by decide +kernel
  rw [this]
  omega
/-! reading -/
def Reads' (st : RSt) (ls : List (List Str)) (st' : RSt) : Prop := ∀ n rest, readL st n (ls.map lineOf ++ rest) = readL st' (n + ls.length) rest
theorem Reads'.nil (st : RSt) : Reads' st [] st := fun n rest => rfl
theorem Reads'.cons {st s1 s2 : RSt} {ws : List Str} {ls : List (List Str)} (hw : takeWords st ws = some s1) (hne : ws ≠ []) (hc : ∀ w ∈ ws, clean w) (h : Reads' s1 ls s2) : Reads' st (ws :: ls) s2 := fun n rest => by
  have e : takeLine st (lineOf ws) = some s1 := by
    unfold takeLine
    rw [line_split hne hc]
    exact hw
  rw [List.map_cons, List.cons_append, readL_some e, h (n + 1) rest, List.length_cons, show n + 1 + ls.length = n + (ls.length + 1) by omega]
theorem Reads'.app {st s1 s2 : RSt} {a b : List (List Str)} (h1 : Reads' st a s1) (h2 : Reads' s1 b s2) : Reads' st (a ++ b) s2 := fun n rest => by
  rw [List.map_append, List.append_assoc, h1, h2, List.length_append, Nat.add_assoc]
theorem rowOf_wC {r : Row} {last : Int} (h : rowOk r last = true) (hl : last ≤ 4) : classRow (wC r) last = some r := by
  obtain ⟨r1, r2, r3, r4, r5, r6, r7, r8⟩ := rowOk_iff.mp h
  have hp := sizesOk_pos r3
  have e : rowOf (wC r) = some r := by
    obtain ⟨nm, f, l, m, sz⟩ := r
    cases sz with
    | nil => cases hp
    | cons s0 ss =>
      have es : intsOf ((numS s0 :: ss.map numS).map wholeIn) = some (s0 :: ss) := by
        rw [← intsOf_map (s0 :: ss)]
        congr 1
        rw [← List.map_cons (f := numS), List.map_map]
        refine List.map_congr_left fun n hn => ?_
        have := sizes_rng r3 hn
        exact (num_ok (by omega) (by omega)).1
      dsimp only at r2 r4 r5 r6 r7 r8 hp
      have e1 := (num_ok (n := f) (by omega) (by omega)).1
      have e2 := (num_ok (n := l) (by omega) (by omega)).1
      have e3 := (num_ok (n := m) (by omega) (by omega)).1
      show (match wholeIn (numS f), wholeIn (numS l), wholeIn (numS m), intsOf ((numS s0 :: ss.map numS).map wholeIn) with
        | some f, some l, some m, some ns => some (⟨nm, f, l, m, ns⟩ : Row)
        | _, _, _, _ => none) = _
      rw [e1, e2, e3, es]
  unfold classRow
  rw [e]
  exact if_pos h
theorem reads_rows {lo : Lore} (h : LoreOk lo) : ∀ (rest pre : List Row) (s : Str), pre ++ rest = lo.rows → ("class" : Str) ∈ behind s →
    ∃ s', (rest = [] → s' = s) ∧ (rest ≠ [] → s' = "class") ∧ Reads' ⟨s, lo.zooms - 1, pre, [], []⟩ (rest.map wC) ⟨s', lo.zooms - 1, lo.rows, [], []⟩
  | [], pre, s, e, _ => ⟨s, fun _ => rfl, fun z => absurd rfl z, by rw [← e, List.append_nil]; exact Reads'.nil _⟩
  | r :: rest, pre, s, e, hs => by
    have hz5 := h.z5
    have hmem : r ∈ lo.rows := by rw [← e]; simp
    have hok := h.rows.ok r hmem
    have hlen : pre.length < 4 := by
      have := congrArg List.length e
      rw [List.length_append, List.length_cons] at this
      have := h.r4
      omega
    have hnew : r.name ∉ pre.map (·.name) := by
      have := h.rows.nd
      rw [← e, List.map_append, List.nodup_append] at this
      exact fun hm => this.2.2 _ hm _ (by simp) rfl
    obtain ⟨s', h1, h2, h3⟩ := reads_rows h rest (pre ++ [r]) "class" (by rw [List.append_assoc]; exact e) (by decide +kernel)
    have tk : takeWords ⟨s, lo.zooms - 1, pre, [], []⟩ (wC r) = some ⟨"class", lo.zooms - 1, pre ++ [r], [], []⟩ := by
      show (if ("class" : Str) ∈ behind s then _ else _) = _
      rw [if_pos hs, if_neg (by decide), if_pos rfl]
      unfold takeClass
      show (classRow (wC r) (lo.zooms - 1)).bind _ = _
      rw [rowOf_wC hok (by omega)]
      show (if pre.length = 4 ∨ r.name ∈ names _ then _ else _) = _
      rw [if_neg]
      exact fun z => by
        rcases z with z | z
        · omega
        · exact hnew z
    have sh := h.short (wC r) (by unfold linesOf; simp only [List.mem_cons, List.mem_append, List.mem_map]; exact .inr (.inl ⟨r, hmem, rfl⟩))
    refine ⟨s', fun z => (nomatch z), fun _ => ?_, h3.cons tk sh.1 fun w hw => (sh.2.2 w hw).1⟩
    cases rest with
    | nil => exact h1 rfl
    | cons a b => exact h2 (by simp)
theorem pairOf_nm {rows : List Row} (nd : (rows.map (·.name)).Nodup) {i j : Nat} (hij : i ≤ j) (hj : j < rows.length) : pairOf (rows.map (·.name)) (nmAt rows i) (nmAt rows j) = some (i, j) := by
  have ei : (rows.map (·.name))[i]? = some (nmAt rows i) := by rw [List.getElem?_map, (nmAt_get (by omega)).1, (nmAt_get (by omega)).2]; rfl
  have ej : (rows.map (·.name))[j]? = some (nmAt rows j) := by rw [List.getElem?_map, (nmAt_get hj).1, (nmAt_get hj).2]; rfl
  unfold pairOf
  rw [if_pos ⟨List.mem_of_getElem? ei, List.mem_of_getElem? ej⟩, idx_nd nd ei, idx_nd nd ej, if_pos hij]
theorem reads_beside {lo : Lore} (h : LoreOk lo) : ∀ (rest pre : List (Nat × Nat)) (s : Str), pre ++ rest = lo.beside → ("beside" : Str) ∈ behind s → ("far" : Str) ∈ behind s →
    ∃ s', ("far" : Str) ∈ behind s' ∧ Reads' ⟨s, lo.zooms - 1, lo.rows, pre, []⟩ (rest.map (wB lo.rows)) ⟨s', lo.zooms - 1, lo.rows, lo.beside, []⟩
  | [], pre, s, e, _, hf => ⟨s, hf, by rw [← e, List.append_nil]; exact Reads'.nil _⟩
  | p :: rest, pre, s, e, hs, hf => by
    have hmem : p ∈ lo.beside := by rw [← e]; simp
    have hlt := allPairs_lt (h.be.subset hmem)
    have hasc : Asc lo.beside := List.Pairwise.sublist h.be (allPairs_asc h.r4)
    have hlast : (pre.getLast?.any fun q => pairLe p q) = false := by
      cases el : pre.getLast? with
      | none => rfl
      | some q =>
        obtain ⟨ys, rfl⟩ := List.getLast?_eq_some_iff.mp el
        rw [← e] at hasc
        exact (List.pairwise_append.mp hasc).2.2 q (by simp) p (by simp)
    obtain ⟨s', h1, h3⟩ := reads_beside h rest (pre ++ [p]) "beside" (by rw [List.append_assoc]; exact e) (by decide +kernel) (by decide +kernel)
    have tk : takeWords ⟨s, lo.zooms - 1, lo.rows, pre, []⟩ (wB lo.rows p) = some ⟨"beside", lo.zooms - 1, lo.rows, pre ++ [p], []⟩ := by
      show (if ("beside" : Str) ∈ behind s then _ else _) = _
      rw [if_pos hs, if_neg (by decide), if_neg (by decide), if_pos rfl]
      show (pairOf (lo.rows.map (·.name)) (nmAt lo.rows p.1) (nmAt lo.rows p.2)).bind _ = _
      rw [pairOf_nm h.rows.nd hlt.1 hlt.2]
      show (if (pre.getLast?.any fun q => pairLe (p.1, p.2) q) = true then _ else _) = _
      rw [hlast]
      rfl
    have sh := h.short (wB lo.rows p) (by unfold linesOf; simp only [List.mem_cons, List.mem_append, List.mem_map]; exact .inr (.inr (.inl ⟨p, hmem, rfl⟩)))
    exact ⟨s', h1, h3.cons tk sh.1 fun w hw => (sh.2.2 w hw).1⟩
theorem reads_far {lo : Lore} (h : LoreOk lo) : ∀ (rest pre : List ((Nat × Nat) × Int)) (s : Str), pre ++ rest = lo.far → ("far" : Str) ∈ behind s →
    ∃ s', Reads' ⟨s, lo.zooms - 1, lo.rows, lo.beside, pre⟩ (rest.map (wF lo.rows)) ⟨s', lo.zooms - 1, lo.rows, lo.beside, lo.far⟩
  | [], pre, s, e, hf => ⟨s, by rw [← e, List.append_nil]; exact Reads'.nil _⟩
  | p :: rest, pre, s, e, hs => by
    have hmem : p ∈ lo.far := by rw [← e]; simp
    have hlt := allPairs_lt (h.fa.subset (List.mem_map.mpr ⟨p, hmem, rfl⟩))
    have hd := h.di p hmem
    have hasc : Asc (lo.far.map (·.1)) := List.Pairwise.sublist h.fa (allPairs_asc h.r4)
    have hlast : (pre.getLast?.any fun q => pairLe p.1 q.1) = false := by
      cases el : pre.getLast? with
      | none => rfl
      | some q =>
        obtain ⟨ys, rfl⟩ := List.getLast?_eq_some_iff.mp el
        rw [← e, List.map_append] at hasc
        exact (List.pairwise_append.mp hasc).2.2 q.1 (by simp) p.1 (by simp)
    obtain ⟨s', h3⟩ := reads_far h rest (pre ++ [p]) "far" (by rw [List.append_assoc]; exact e) (by decide +kernel)
    have tk : takeWords ⟨s, lo.zooms - 1, lo.rows, lo.beside, pre⟩ (wF lo.rows p) = some ⟨"far", lo.zooms - 1, lo.rows, lo.beside, pre ++ [p]⟩ := by
      show (if ("far" : Str) ∈ behind s then _ else _) = _
      rw [if_pos hs, if_neg (by decide), if_neg (by decide), if_neg (by decide)]
      show (pairOf (lo.rows.map (·.name)) (nmAt lo.rows p.1.1) (nmAt lo.rows p.1.2)).bind _ = _
      rw [pairOf_nm h.rows.nd hlt.1 hlt.2]
      show (if (pre.getLast?.any fun q => pairLe (p.1.1, p.1.2) q.1) = true then _ else _) = _
      rw [hlast]
      show (wholeIn (numS p.2)).bind _ = _
      rw [(num_ok (by omega) (by omega)).1]
      exact if_pos hd
    have sh := h.short (wF lo.rows p) (by unfold linesOf; simp only [List.mem_cons, List.mem_append, List.mem_map]; exact .inr (.inr (.inr ⟨p, hmem, rfl⟩)))
    exact ⟨s', h3.cons tk sh.1 fun w hw => (sh.2.2 w hw).1⟩
theorem LoreOk.reads {lo : Lore} (h : LoreOk lo) : ∃ s, readStyle (textOf lo) = .ok ⟨s, lo.zooms - 1, lo.rows, lo.beside, lo.far⟩ := by
  have hz1 := h.z1
  have hz5 := h.z5
  obtain ⟨s1, _, h12, h1⟩ := reads_rows h lo.rows [] "zooms" rfl (by decide +kernel)
  have hne : lo.rows ≠ [] := fun z => by
    have := h.r1
    rw [z] at this
    cases this
  have e1 := h12 hne
  subst e1
  obtain ⟨s2, hf2, h2⟩ := reads_beside h lo.beside [] "class" rfl (by decide +kernel) (by decide +kernel)
  obtain ⟨s3, h3⟩ := reads_far h lo.far [] s2 rfl hf2
  have tk : takeWords stZero (wZ lo) = some ⟨"zooms", lo.zooms - 1, [], [], []⟩ := by
    unfold takeWords wZ
    dsimp only
    rw [if_pos (show ("zooms" : Str) ∈ behind stZero.sort by decide +kernel), if_pos rfl]
    show (wholeIn (numS lo.zooms)).bind _ = _
    rw [(num_ok (by omega) (by omega)).1]
    exact if_pos ⟨hz1, hz5⟩
  have sh := h.short (wZ lo) (by unfold linesOf; simp)
  have all : Reads' stZero (linesOf lo) ⟨s3, lo.zooms - 1, lo.rows, lo.beside, lo.far⟩ := (h1.app (h2.app h3)).cons tk sh.1 fun w hw => (sh.2.2 w hw).1
  have e := all 0 []
  rw [List.append_nil] at e
  refine ⟨s3, ?_⟩
  unfold readStyle
  rw [h.split, e]
  exact if_neg hne
end SL
set_option maxHeartbeats 4000000
namespace SL
open PySem PySem.Spec PyProof.Rows L2
def isThere (r : Row) (n : Int) : Bool := decide (r.first ≤ n) && decide (n < r.first + r.sizes.length)
/-- the lore's object -/
def LoreAt (H : Hp) (v : V) (lo : Lore) : Prop := ∃ d B F L, v = .ref d ∧ H d = some (.dK [(.inr "zooms", .int lo.zooms), (.inr "beside", .ref B), (.inr "far", .ref F), (.inr "classes", .ref L)]) ∧
  (∃ vs, H B = some (.lst vs) ∧ RvL H vs (lo.beside.map pairD)) ∧ (∃ vs, H F = some (.lst vs) ∧ RvL H vs (lo.far.map farD)) ∧ ClsAt H L lo.rows
theorem LoreAt.same {H H' : Hp} {v : V} {lo : Lore} (h : LoreAt H v lo) (s : Same H H') : LoreAt H' v lo := by
  obtain ⟨d, B, F, L, e, h1, ⟨v1, h2, h3⟩, ⟨v2, h4, h5⟩, h6⟩ := h
  exact ⟨d, B, F, L, e, s _ _ h1, ⟨v1, s _ _ h2, h3.same s⟩, ⟨v2, s _ _ h4, h5.same s⟩, h6.same s⟩
/-- a list of tuples is no pot -/
theorem Pt.neT {p a : Addr} {f : Nat} {H : Hp} {vs : List V} {ds : List PyData} (hp : Pt p f H) (ha : H a = some (.lst vs)) (r : RvL H vs ds) (ht : ∀ d ∈ ds, ∃ es, d = .tuple es) : a ≠ p := fun e => by
  obtain ⟨l, h1, o, m, c, rfl, _⟩ := hp
  rw [e, h1] at ha
  cases ha
  cases r with
  | cons h _ =>
    obtain ⟨es, e⟩ := ht _ List.mem_cons_self
    rw [e] at h
    cases h
theorem Pt.neD {p a : Addr} {f : Nat} {H : Hp} {kvs : List (Key × V)} (hp : Pt p f H) (ha : H a = some (.dK kvs)) : a ≠ p := fun e => by
  obtain ⟨l, h1, _⟩ := hp
  rw [e, h1] at ha
  cases ha
theorem tupP (l : List (Nat × Nat)) : ∀ d ∈ l.map pairD, ∃ es, d = .tuple es := fun d hd => by
  obtain ⟨p, _, rfl⟩ := List.mem_map.mp hd
  exact ⟨_, rfl⟩
theorem tupF (l : List ((Nat × Nat) × Int)) : ∀ d ∈ l.map farD, ∃ es, d = .tuple es := fun d hd => by
  obtain ⟨p, _, rfl⟩ := List.mem_map.mp hd
  exact ⟨_, rfl⟩
theorem tupC (l : List Row) : ∀ d ∈ l.map clD, ∃ es, d = .tuple es := fun d hd => by
  obtain ⟨p, _, rfl⟩ := List.mem_map.mp hd
  exact ⟨_, rfl⟩
theorem ClsAt.ne {p L : Addr} {f : Nat} {H : Hp} {rows : List Row} (h : ClsAt H L rows) (hp : Pt p f H) : L ≠ p := by
  obtain ⟨vs, h1, h2⟩ := h
  exact hp.neT h1 h2 (tupC _)
theorem LoreAt.kp {p : Addr} {f : Nat} {H H' : Hp} {v : V} {lo : Lore} (h : LoreAt H v lo) (hp : Pt p f H) (k : Kp p H H') : LoreAt H' v lo := by
  obtain ⟨d, B, F, L, e, h1, ⟨v1, h2, h3⟩, ⟨v2, h4, h5⟩, h6⟩ := h
  exact ⟨d, B, F, L, e, k _ _ (hp.neD h1) h1, ⟨v1, k _ _ (hp.neT h2 h3 (tupP _)) h2, h3.tk (hp.tk k) (pairD_fz _)⟩, ⟨v2, k _ _ (hp.neT h4 h5 (tupF _)) h4, h5.tk (hp.tk k) (farD_fz _)⟩, h6.kp hp (h6.ne hp) k⟩
section
variable {H : Hp} {d : Addr} {a b c e : V}
theorem lg_zooms (h : H d = some (.dK [(.inr "zooms", a), (.inr "beside", b), (.inr "far", c), (.inr "classes", e)])) : DGet H d (.str "zooms") (some a) := DGet.k (k := .inr "zooms") h
theorem lg_beside (h : H d = some (.dK [(.inr "zooms", a), (.inr "beside", b), (.inr "far", c), (.inr "classes", e)])) : DGet H d (.str "beside") (some b) := DGet.k (k := .inr "beside") h
theorem lg_far (h : H d = some (.dK [(.inr "zooms", a), (.inr "beside", b), (.inr "far", c), (.inr "classes", e)])) : DGet H d (.str "far") (some c) := DGet.k (k := .inr "far") h
theorem lg_classes (h : H d = some (.dK [(.inr "zooms", a), (.inr "beside", b), (.inr "far", c), (.inr "classes", e)])) : DGet H d (.str "classes") (some e) := DGet.k (k := .inr "classes") h
end
/-- the parts of a class -/
theorem cl_parts {H : Hp} {v : V} {r : Row} (h : Rv H v (clD r)) : ∃ t u, v = .ref t ∧ H t = some (.tup [.str r.name, .int r.first, .int r.least, .int r.most, .ref u]) ∧ H u = some (.tup (r.sizes.map V.int)) := by
  unfold clD at h
  cases h with
  | tup h1 h2 =>
    cases h2 with
    | cons a1 h2 =>
      cases h2 with
      | cons a2 h2 =>
        cases h2 with
        | cons a3 h2 =>
          cases h2 with
          | cons a4 h2 =>
            cases h2 with
            | cons a5 h2 =>
              cases h2
              cases a1
              cases a2
              cases a3
              cases a4
              cases a5 with
              | tup g1 g2 =>
                rw [RvL.toInts g2] at g1
                exact ⟨_, _, rfl, h1, g1⟩
theorem pair_parts {H : Hp} {v : V} {p : Nat × Nat} (h : Rv H v (pairD p)) : ∃ t, v = .ref t ∧ H t = some (.tup [.int p.1, .int p.2]) := by
  unfold pairD at h
  cases h with
  | tup h1 h2 =>
    have := RvL.toInts (ns := [(p.1 : Int), p.2]) h2
    rw [this] at h1
    exact ⟨_, rfl, h1⟩
theorem ClsAt.get {H : Hp} {L : Addr} {rows : List Row} {i : Nat} {r : Row} (h : ClsAt H L rows) (e : rows[i]? = some r) : ∃ vs v, H L = some (.lst vs) ∧ vs[i]? = some v ∧ Rv H v (clD r) := by
  obtain ⟨vs, h1, h2⟩ := h
  obtain ⟨v, h3, h4⟩ := h2.get (i := i) (d := clD r) (by rw [List.getElem?_map, e]; rfl)
  exact ⟨vs, v, h1, h3, h4⟩
def pix (z n : Int) : Int := 2 ^ (z - 1 - n).toNat
def spPairsL : Sp := sp1 fun a H Q _ => ∃ m : Nat, a = .int m ∧ m ≤ 4 ∧ ∀ (L : Addr) (vs : List V) (H' : Hp), Same H H' → H L = none → H' L = some (.lst vs) → RvL H' vs ((allPairs m).map pairD) → Q (.ref L) H'
def spThereL : Sp := sp2 fun a b H Q _ => ∃ (r : Row) (n : Int), Rv H a (clD r) ∧ b = .int n ∧ Q (.bl (isThere r n)) H
def spPixelL : Sp := sp2 fun a b H Q _ => ∃ (lo : Lore) (n : Int), LoreAt H a lo ∧ lo.zooms ≤ 5 ∧ 0 ≤ n ∧ n < lo.zooms ∧ b = .int n ∧ ∀ H', Same H H' → Q (.int (pix lo.zooms n)) H'
def spHalfL : Sp := sp4 fun a b c d H Q _ => ∃ (lo : Lore) (i : Nat) (r : Row) (m n : Int), LoreAt H a lo ∧ lo.zooms ≤ 5 ∧ b = .int i ∧ lo.rows[i]? = some r ∧ c = .int m ∧ 0 ≤ m ∧ m ≤ 100 ∧ d = .int n ∧ 0 ≤ n ∧ n < lo.zooms ∧ isThere r n = true ∧ sizesOk r.sizes = true ∧
  ∀ H', Same H H' → Q (.int (m * sizeAt r n * pix lo.zooms n)) H'
theorem pix_at {z n : Int} (h0 : 0 ≤ n) (h1 : n < z) (h5 : z ≤ 5) : atI [V.int 1, V.int 2, V.int 4, V.int 8, V.int 16] (z - 1 - n) = some (V.int (pix z n)) ∧ 1 ≤ pix z n ∧ pix z n ≤ 16 := by
  have : ∀ k : Fin 5, atI [V.int 1, V.int 2, V.int 4, V.int 8, V.int 16] (k.val : Int) = some (V.int ((2 : Int) ^ k.val)) ∧ 1 ≤ (2 : Int) ^ k.val ∧ (2 : Int) ^ k.val ≤ 16 := by decide +kernel
  have h := this ⟨(z - 1 - n).toNat, by omega⟩
  unfold pix
  rw [show (((⟨(z - 1 - n).toNat, by omega⟩ : Fin 5).val : Nat) : Int) = z - 1 - n by show ((z - 1 - n).toNat : Int) = _; omega] at h
  exact h
theorem size_at {r : Row} {n : Int} (h : isThere r n = true) : (r.sizes.map V.int)[(n - r.first).toNat]? = some (V.int (sizeAt r n)) ∧ 0 ≤ n - r.first ∧ sizeAt r n ∈ r.sizes := by
  unfold isThere at h
  simp only [Bool.and_eq_true, decide_eq_true_eq] at h
  have h0 : 0 ≤ n - r.first := by omega
  have hl : (n - r.first).toNat < r.sizes.length := by omega
  have e : sizeAt r n = r.sizes[(n - r.first).toNat] := by
    unfold sizeAt
    rw [if_pos h0, List.getElem?_eq_getElem hl]
    rfl
  refine ⟨?_, h0, ?_⟩
  · rw [List.getElem?_map, List.getElem?_eq_getElem hl, e]
    rfl
  · rw [e]
    exact List.getElem_mem hl
end SL
namespace SK
open PySem PySem.Spec PyProof.Rows L2 SL
section
variable {w : World} {K : PySem.W.Frag} {mg : Str → Option Value} {base : Heap}
abbrev n_law_pairs : List Str := ["_law_many", "_law_found", "_law_i", "_law_j"]
theorem sc_law_pairs : FnScope n_law_pairs ["_law_many"] (defScope d_law_pairs) := ⟨rfl, rfl, rfl, by decide +kernel, rfl, by decide +kernel, by decide +kernel⟩
theorem ok_law_pairs (T : Top w K mg) : Has prg w K mg base CX0 1 (He.ga K "_law_pairs") ["_law_many"] spPairsL := by
  obtain ⟨fd, F⟩ := T.F_law_pairs
  refine ⟨fd, F.ok (k := 0) sc_law_pairs (fun _ _ _ _ h => sp1_len h) (fun cdv A outer s H vs Q E hr h => ?_), F.bindsN (fun _ _ _ _ _ _ us hl => match us, hl with | [_], _ => rfl), F.kp⟩
  obtain ⟨v0, rfl, h⟩ := h
  refine ⟨_, PSs.nox (pss_cons (ps_set (i := 1) sc_law_pairs.nd rfl (Or.inl rfl) (pe_lst pa_nil))
    (pss_cons (ps_for PassesOwn.never rfl (pi_range1 (by rfl) T.b_range (pa_cons (pv 0) pa_nil)) (pg_name (i := 2) sc_law_pairs.nd rfl (Or.inr rfl)) (pss_one (ps_expr (pe_bm PySem.F.plainAttrs_list PySem.F.slot_list_extend PySem.F.type_list_extend mt_extend (pv 1) (pa_cons (pe_lc (own := [("_law_j", 3)]) (g := gName 3) (by rfl) sc_law_pairs.nd (pi_range2 (by rfl) T.b_range (pa_cons (pv 2) (pa_cons (pv 0) pa_nil))) (blkOk_by (N := n_law_pairs) (sc := defScope d_law_pairs) (own := [("_law_j", 3)]) (by decide +kernel)) (fun _ _ _ _ _ => (pg_name (i := 3) sc_law_pairs.nd rfl (Or.inl rfl) (.inr rfl))) (fun _ _ _ _ _ => pts_nil) (fun _ _ _ _ _ => (pe_tup (pa_cons (pv 2) (pa_cons (pv 3) pa_nil))))) pa_nil)))))
    (pss_one (ps_ret (pv 1))))), ?_⟩
  obtain ⟨m, rfl, hm, k⟩ := h
  refine ⟨(by show 0 ≤ sizeLine; decide), fun L hL => ?_⟩
  refine ⟨_, rfl, _, rfl, by omega, by omega, ?_⟩
  refine for_it (walk_range (lo := 0) (n := ((m : Int)).toNat)) (fun i σ H4 => ∃ (o2 o3 : Option V) (vs : List V), σ = [some (.int m), some (.ref L), o2, o3] ∧ Same H H4 ∧ H4 L = some (.lst vs) ∧ RvL H4 vs (((List.range i).flatMap fun i => (List.range (m - i)).map fun k => (i, i + k)).map SL.pairD) ∧ vs.length ≤ 4 * i)
    ⟨none, none, [], rfl, same_new hL, upd_same, .nil, Nat.zero_le _⟩ (fun _ _ _ _ _ => trivial) ?_ ?_
  · rintro i x σ H4 H5 hi ⟨o2, o3, vs, rfl, s4, hL4, rv4, ln4⟩ ⟨rfl, rfl⟩
    refine ⟨_, rfl, .inl ⟨rfl, _, SqL.of hL4⟩, _, rfl, _, rfl, _, _, rfl, ⟨by omega, by omega, by omega, by omega⟩, fun D hD => ?_⟩
    have hn : ((m : Int) - (0 + (i : Int))).toNat = m - i := by omega
    refine lc_fz (walk_range (lo := 0 + (i : Int)) (n := ((m : Int) - (0 + (i : Int))).toNat)) (fun k => some (SL.pairD (i, i + k))) (fun k d e => by cases e; rfl) hD (by rw [hn, sizeLine_eq]; omega) (fun _ _ => trivial) ?_ ?_
    · rintro j x H6 H7 Ky Kn hj s6 ⟨rfl, rfl⟩ ky kn
      refine ⟨rfl, _, rfl, _, rfl, (by show 2 ≤ sizeLine; decide), fun t ht => ky _ _ _ rfl ?_ (same_new ht)⟩
      have e : SL.pairD (i, i + j) = .tuple [.int (0 + (i : Int)), .int (0 + (i : Int) + (j : Int))] := by
        show PyData.tuple [.int ((i : Nat) : Int), .int ((i + j : Nat) : Int)] = _
        rw [Int.zero_add, Int.natCast_add]
      rw [e]
      exact .tup upd_same (.cons (.int _) (.cons (.int _) .nil))
    · intro H6 l s6 hD6 rv6
      have ll : l.length ≤ m - i := by
        rw [rv6.length]
        exact Nat.le_trans (fm_len _ _) (by omega)
      have hL6 := s6 _ _ hL4
      refine ⟨L, D, vs, l, rfl, rfl, hL6, hD6, by rw [sizeLine_eq]; omega, ?_⟩
      refine ⟨_, _, vs ++ l, rfl, ?_, upd_same, ?_, by rw [List.length_append]; omega⟩
      · intro b o hb
        rw [upd_ne (ne_of_none hb hL)]
        exact s6 _ _ (s4 _ _ hb)
      · have t7 : Tk H6 (upd H6 L (.lst (vs ++ l))) := Tk.updL hL6
        rw [fm_some, hn] at rv6
        have e : (((List.range (i + 1)).flatMap fun i => (List.range (m - i)).map fun k => (i, i + k)).map SL.pairD) = (((List.range i).flatMap fun i => (List.range (m - i)).map fun k => (i, i + k)).map SL.pairD) ++ (List.range (m - i)).map fun k => SL.pairD (i, i + k) := by
          rw [List.range_succ, List.flatMap_append, List.map_append]
          congr 1
          simp [List.flatMap_cons, List.map_map]
        rw [e]
        refine ((rv4.same s6).tk t7 (pairD_fz _)).app (rv6.tk t7 (fzAll_iff.mpr fun d hd => ?_))
        obtain ⟨q, _, rfl⟩ := List.mem_map.mp hd
        rfl
  · rintro σ H4 ⟨o2, o3, vs, rfl, s4, hL4, rv4, ln4⟩
    exact ⟨_, rfl, k L vs H4 s4 hL hL4 rv4⟩
abbrev n_law_is_there : List Str := ["_law_one", "_law_zoom"]
theorem sc_law_is_there : FnScope n_law_is_there ["_law_one", "_law_zoom"] (defScope d_law_is_there) := ⟨rfl, rfl, rfl, by decide +kernel, rfl, by decide +kernel, by decide +kernel⟩
theorem ok_law_is_there (T : Top w K mg) : Has prg w K mg base CX0 1 (He.ga K "_law_is_there") ["_law_one", "_law_zoom"] spThereL := by
  obtain ⟨fd, F⟩ := T.F_law_is_there
  refine ⟨fd, F.ok (k := 0) sc_law_is_there (fun _ _ _ _ h => sp2_len h) (fun cdv A outer s H vs Q E hr h => ?_), F.bindsN (fun _ _ _ _ _ _ us hl => match us, hl with | [_, _], _ => rfl), F.kp⟩
  obtain ⟨v0, v1, rfl, h⟩ := h
  refine ⟨_, PSs.nox (pss_one (ps_ret (pe_chain op_le op_lt (pe_ix ix_tup (pv 0) pe_int (fun _ _ => rfl)) (pv 1) (pe_op op_add (pe_ix ix_tup (pv 0) pe_int (fun _ _ => rfl)) (pe_callB call_len (by rfl) T.b_len (by decide +kernel) (pa_cons (pe_ix ix_tup (pv 0) pe_int (fun _ _ => rfl)) pa_nil)))))), ?_⟩
  obtain ⟨r, n, rv, rfl, q⟩ := h
  obtain ⟨t, u, rfl, ht, hu⟩ := cl_parts rv
  refine ⟨_, rfl, t, _, _, _, rfl, rfl, SqT.of ht, rfl, _, rfl, _, _, rfl, rfl, _, rfl, ?_⟩
  refine ite2 (fun h0 => ?_) (fun h0 => ?_)
  · refine ⟨_, rfl, t, _, _, _, rfl, rfl, SqT.of ht, rfl, _, rfl, t, _, _, _, rfl, rfl, SqT.of ht, rfl, _, r.sizes.length, rfl, .inr ⟨_, SqT.of hu, by rw [List.length_map]⟩, _, _, rfl, rfl, _, _, rfl, rfl, ?_⟩
    unfold isThere at q
    rw [h0, Bool.true_and] at q
    exact q
  · unfold isThere at q
    rw [Bool.eq_false_iff.mpr h0, Bool.false_and] at q
    exact q
abbrev n_law_pixel : List Str := ["_law_lore_here", "_law_zoom"]
theorem sc_law_pixel : FnScope n_law_pixel ["_law_lore_here", "_law_zoom"] (defScope d_law_pixel) := ⟨rfl, rfl, rfl, by decide +kernel, rfl, by decide +kernel, by decide +kernel⟩
theorem ok_law_pixel (T : Top w K mg) : Has prg w K mg base CX0 1 (He.ga K "_law_pixel") ["_law_lore_here", "_law_zoom"] spPixelL := by
  obtain ⟨fd, F⟩ := T.F_law_pixel
  refine ⟨fd, F.ok (k := 0) sc_law_pixel (fun _ _ _ _ h => sp2_len h) (fun cdv A outer s H vs Q E hr h => ?_), F.bindsN (fun _ _ _ _ _ _ us hl => match us, hl with | [_, _], _ => rfl), F.kp⟩
  obtain ⟨v0, v1, rfl, h⟩ := h
  refine ⟨_, PSs.nox (pss_one (ps_ret (pe_ix ix_list (pe_lst (pa_cons pe_int (pa_cons pe_int (pa_cons pe_int (pa_cons pe_int (pa_cons pe_int pa_nil)))))) (pe_op op_sub (pe_op op_sub (pe_dget (hu_of hr) (pv 0) pe_str (fun _ _ => rfl)) pe_int) (pv 1)) (fun _ _ => rfl)))), ?_⟩
  obtain ⟨lo, n, ⟨d, B, F', L, rfl, h1, h2, h3, h4⟩, hz5, hn0, hn1, rfl, q⟩ := h
  refine ⟨(by show 5 ≤ sizeLine; decide), fun p hp => ?_⟩
  have s1 := same_new (o := .lst [V.int 1, V.int 2, V.int 4, V.int 8, V.int 16]) hp
  exact ⟨_, rfl, d, _, rfl, lg_zooms (s1 _ _ h1), _, _, rfl, rfl, _, rfl, _, _, rfl, rfl, p, _, _, _, rfl, rfl, SqL.of upd_same, (pix_at hn0 hn1 hz5).1, q _ s1⟩
abbrev n_law_half : List Str := ["_law_lore_here", "_law_i", "_law_letters", "_law_zoom", "_law_one"]
theorem sc_law_half : FnScope n_law_half ["_law_lore_here", "_law_i", "_law_letters", "_law_zoom"] (defScope d_law_half) := ⟨rfl, rfl, rfl, by decide +kernel, rfl, by decide +kernel, by decide +kernel⟩
theorem ok_law_half (T : Top w K mg) : Has prg w K mg base CX0 2 (He.ga K "_law_half") ["_law_lore_here", "_law_i", "_law_letters", "_law_zoom"] spHalfL := by
  obtain ⟨fd, F⟩ := T.F_law_half
  obtain ⟨fd_law_pixel, G_law_pixel, b_law_pixel, k_law_pixel⟩ := ok_law_pixel (base := base) T
  refine ⟨fd, F.ok (k := 1) sc_law_half (fun _ _ _ _ h => sp4_len h) (fun cdv A outer s H vs Q E hr h => ?_), F.bindsN (fun _ _ _ _ _ _ us hl => match us, hl with | [_, _, _, _], _ => rfl), F.kp⟩
  obtain ⟨v0, v1, v2, v3, rfl, h⟩ := h
  refine ⟨_, PSs.nox (pss_cons (ps_set (i := 4) sc_law_half.nd rfl (Or.inl rfl) (pe_ix ix_list (pe_dget (hu_of hr) (pv 0) pe_str (fun _ _ => rfl)) (pv 1) (fun _ _ => rfl)))
    (pss_one (ps_ret (pe_op op_mul (pe_op op_mul (pv 2) (pe_ix ix_tup (pe_ix ix_tup (pv 4) pe_int (fun _ _ => rfl)) (pe_op op_sub (pv 3) (pe_ix ix_tup (pv 4) pe_int (fun _ _ => rfl))) (fun _ _ => rfl))) (pe_call G_law_pixel (hr.mono (by decide)) (by rfl) T.g_law_pixel k_law_pixel b_law_pixel .nil pass0 (pa_cons (pv 0) (pa_cons (pv 3) pa_nil))))))), ?_⟩
  obtain ⟨lo, i, r, m, n, LA, hz5, rfl, hr1, rfl, hm0, hm1, rfl, hn0, hn1, hth, hsz, q⟩ := h
  obtain ⟨d, B, F', L, rfl, h1, h2, h3, h4⟩ := id LA
  obtain ⟨vs, v, hL, hv, rv⟩ := h4.get hr1
  obtain ⟨t, u, rfl, ht, hu⟩ := cl_parts rv
  obtain ⟨sz1, sz2, sz3⟩ := size_at hth
  have sz4 := sizes_rng hsz sz3
  have px := (pix_at hn0 hn1 hz5).2
  refine ⟨_, rfl, d, _, rfl, lg_classes h1, _, rfl, L, _, _, _, rfl, rfl, SqL.of hL, atI_nat hv, ?_⟩
  refine ⟨_, rfl, _, rfl, t, _, _, _, rfl, rfl, SqT.of ht, rfl, _, rfl, _, rfl, t, _, _, _, rfl, rfl, SqT.of ht, rfl, _, _, rfl, rfl, u, _, _, _, rfl, rfl, SqT.of hu, at_of (j := (n - r.first).toNat) (by omega) sz1, _, _, rfl, rfl, .inl ⟨by omega, by omega⟩, ?_⟩
  exact ⟨_, rfl, _, rfl, _, _, rfl, lo, n, LA, hz5, hn0, hn1, rfl, fun H' s' => ⟨_, _, rfl, rfl, .inr ⟨by omega, by omega⟩, q H' s'⟩⟩
end
end SK

set_option maxHeartbeats 4000000
namespace SL
open PySem PySem.Spec PyProof.Rows L2
def spDistL : Sp := sp3 fun a b c H Q _ => ∃ (p : Addr) (f : Nat) (lo : Lore) (i j : Nat) (r q : Row), a = .ref p ∧ Pt p (f + 5) H ∧ LoreAt H b lo ∧ 1 ≤ lo.zooms ∧ lo.zooms ≤ 5 ∧ RowsOk lo.zooms lo.rows ∧ Rv H c (pairD (i, j)) ∧ lo.rows[i]? = some r ∧ lo.rows[j]? = some q ∧
  ∀ (n : Int) (H' : Hp), 1 ≤ n → n ≤ 9999 → Pt p f H' → Kp p H H' → Q (.int n) H'
def zmF (r q : Row) (k : Nat) : Option V := if (isThere r (0 + (k : Int)) && isThere q (0 + (k : Int))) = true then some (V.int (0 + (k : Int))) else none
theorem clampB (x : Int) : 1 ≤ (if (if x < 9999 then x else 9999) > 1 then (if x < 9999 then x else 9999) else 1) ∧ (if (if x < 9999 then x else 9999) > 1 then (if x < 9999 then x else 9999) else 1) ≤ 9999 := by
  split <;> split <;> omega
end SL
namespace SK
open PySem PySem.Spec PyProof.Rows L2 SL
section
variable {w : World} {K : PySem.W.Frag} {mg : Str → Option Value} {base : Heap}
abbrev n_law_distance : List Str := ["_law_pot_here", "_law_lore_here", "_law_pair", "_law_zooms", "_law_zoom", "_law_found", "_law_one", "_law_other"]
theorem sc_law_distance : FnScope n_law_distance ["_law_pot_here", "_law_lore_here", "_law_pair"] (defScope d_law_distance) := ⟨rfl, rfl, rfl, by decide +kernel, rfl, by decide +kernel, by decide +kernel⟩
theorem ok_law_distance (T : Top w K mg) : Has prg w K mg base CX0 3 (He.ga K "_law_distance") ["_law_pot_here", "_law_lore_here", "_law_pair"] spDistL := by
  obtain ⟨fd, F⟩ := T.F_law_distance
  obtain ⟨fd_law_is_there, G_law_is_there, b_law_is_there, k_law_is_there⟩ := ok_law_is_there (base := base) T
  obtain ⟨fd_law_take, G_law_take, b_law_take, k_law_take⟩ := ok_law_take (base := base) T
  obtain ⟨fd_law_of, G_law_of, b_law_of, k_law_of⟩ := ok_law_of (base := base) T
  obtain ⟨fd_law_half, G_law_half, b_law_half, k_law_half⟩ := ok_law_half (base := base) T
  refine ⟨fd, F.ok (k := 2) sc_law_distance (fun _ _ _ _ h => sp3_len h) (fun cdv A outer s H vs Q E hr h => ?_), F.bindsN (fun _ _ _ _ _ _ us hl => match us, hl with | [_, _, _], _ => rfl), F.kp⟩
  obtain ⟨v0, v1, v2, rfl, h⟩ := h
  refine ⟨_, PSs.nox (pss_cons (ps_asg (pe_tup (pa_cons (pe_ix ix_list (pe_dget (hu_of hr) (pv 1) pe_str (fun _ _ => rfl)) (pe_ix ix_tup (pv 2) pe_int (fun _ _ => rfl)) (fun _ _ => rfl)) (pa_cons (pe_ix ix_list (pe_dget (hu_of hr) (pv 1) pe_str (fun _ _ => rfl)) (pe_ix ix_tup (pv 2) pe_int (fun _ _ => rfl)) (fun _ _ => rfl)) pa_nil))) (pg_tup rfl (pgs_cons (pg_name (i := 6) sc_law_distance.nd rfl (Or.inr rfl)) (pgs_cons (pg_name (i := 7) sc_law_distance.nd rfl (Or.inr rfl)) pgs_nil))))
    (pss_cons (ps_setLc (i := 3) (own := [("_law_zoom", 4)]) (g := gName 4) (by rfl) sc_law_distance.nd rfl rfl (sw_true rfl rfl rfl (by decide +kernel)) (pi_range1 (by rfl) T.b_range (pa_cons (pe_dget (hu_of hr) (pv 1) pe_str (fun _ _ => rfl)) pa_nil)) (blkOk_by (N := n_law_distance) (sc := defScope d_law_distance) (own := [("_law_zoom", 4)]) (by decide +kernel)) (fun _ _ _ _ _ => (pg_name (i := 4) sc_law_distance.nd rfl (Or.inl rfl) (.inr rfl))) (fun _ _ _ _ _ => (pts_one (PW.pt (pw_and (pt_val (pe_call G_law_is_there (hr.mono (by decide)) (by rfl) T.g_law_is_there k_law_is_there b_law_is_there .nil pass0 (pa_cons (pv 6) (pa_cons (pv 4) pa_nil)))) (pw_and1 (pt_val (pe_call G_law_is_there (hr.mono (by decide)) (by rfl) T.g_law_is_there k_law_is_there b_law_is_there .nil pass0 (pa_cons (pv 7) (pa_cons (pv 4) pa_nil))))))))) (fun _ _ _ _ _ => (pv 4)))
    (pss_cons (ps_if (PW.pt (pw_or (pt_cmpR (op_eqNil hr.units) (pv 3) (pe_lst pa_nil) (nomark _)) (pw_or1 (pt_cmpR op_eq (pe_call G_law_take (hr.mono (by decide)) (by rfl) T.g_law_take k_law_take b_law_take .nil pass0 (pa_cons (pv 0) (pa_cons pe_int pa_nil))) pe_int (nomark _))))) (pss_one (ps_ret (pe_op op_add pe_int (pe_call G_law_take (hr.mono (by decide)) (by rfl) T.g_law_take k_law_take b_law_take .nil pass0 (pa_cons (pv 0) (pa_cons (pe_call G_law_of (hr.mono (by decide)) (by rfl) T.g_law_of k_law_of b_law_of .nil pass0 (pa_cons (pv 0) (pa_cons (pe_lst (pa_cons pe_int (pa_cons pe_int (pa_cons pe_int pa_nil)))) pa_nil))) pa_nil)))))) pss_nil)
    (pss_cons (ps_set (i := 4) sc_law_distance.nd rfl (Or.inl rfl) (pe_call G_law_of (hr.mono (by decide)) (by rfl) T.g_law_of k_law_of b_law_of .nil pass0 (pa_cons (pv 0) (pa_cons (pv 3) pa_nil))))
    (pss_cons (ps_set (i := 5) sc_law_distance.nd rfl (Or.inl rfl) (pe_op op_add (pe_call G_law_half (hr.mono (by decide)) (by rfl) T.g_law_half k_law_half b_law_half .nil pass0 (pa_cons (pv 1) (pa_cons (pe_ix ix_tup (pv 2) pe_int (fun _ _ => rfl)) (pa_cons (pe_ix ix_tup (pv 6) pe_int (fun _ _ => rfl)) (pa_cons (pv 4) pa_nil))))) (pe_call G_law_half (hr.mono (by decide)) (by rfl) T.g_law_half k_law_half b_law_half .nil pass0 (pa_cons (pv 1) (pa_cons (pe_ix ix_tup (pv 2) pe_int (fun _ _ => rfl)) (pa_cons (pe_ix ix_tup (pv 7) pe_int (fun _ _ => rfl)) (pa_cons (pv 4) pa_nil)))))))
    (pss_one (ps_ret (pe_callB (call_max2 (by rfl)) (by rfl) T.b_max (by decide +kernel) (pa_cons pe_int (pa_cons (pe_callB (call_min2 (by rfl)) (by rfl) T.b_min (by decide +kernel) (pa_cons pe_int (pa_cons (pe_callTy call_int1 (by rfl) T.b_int boot_int (pa_cons (pe_op op_add (pv 5) (pe_call G_law_of (hr.mono (by decide)) (by rfl) T.g_law_of k_law_of b_law_of .nil pass0 (pa_cons (pv 0) (pa_cons (pe_lst (pa_cons pe_int (pa_cons (pe_un un_neg pe_int) (pa_cons pe_int (pa_cons pe_int (pa_cons (pe_call G_law_take (hr.mono (by decide)) (by rfl) T.g_law_take k_law_take b_law_take .nil pass0 (pa_cons (pv 0) (pa_cons pe_int pa_nil))) pa_nil)))))) pa_nil)))) pa_nil)) pa_nil))) pa_nil)))))))))), ?_⟩
  obtain ⟨p, f, lo, i, j, r, q, rfl, hp, LA, hz1, hz5, ok, rvp, hri, hrj, k⟩ := h
  obtain ⟨d, B, F', L, rfl, h1, h2, h3, h4⟩ := id LA
  obtain ⟨t, rfl, ht⟩ := pair_parts rvp
  obtain ⟨vs, vi, hL, hvi, rvi⟩ := h4.get hri
  obtain ⟨vs', vj, hL', hvj, rvj⟩ := h4.get hrj
  rw [hL] at hL'
  cases hL'
  obtain ⟨ti, ui, rfl, hti, hui⟩ := cl_parts rvi
  obtain ⟨tj, uj, rfl, htj, huj⟩ := cl_parts rvj
  refine ⟨_, rfl, d, _, rfl, lg_classes h1, _, rfl, t, _, _, _, rfl, rfl, SqT.of ht, rfl, L, _, _, _, rfl, rfl, SqL.of hL, atI_nat hvi, _, rfl, d, _, rfl, lg_classes h1, _, rfl, t, _, _, _, rfl, rfl, SqT.of ht, rfl, L, _, _, _, rfl, rfl, SqL.of hL, atI_nat hvj, (by show 2 ≤ sizeLine; decide), fun q1 hq1 => ?_⟩
  have s1 := same_new (o := .tup [V.ref ti, V.ref tj]) hq1
  refine ⟨q1, _, rfl, SqT.of upd_same, rfl, _, _, rfl, _, _, rfl, rfl, ?_⟩
  have hp1 := hp.same s1
  have LA1 := LA.same s1
  have rvi1 := rvi.same s1
  have rvj1 := rvj.same s1
  have h11 := s1 _ _ h1
  have hti1 := s1 _ _ hti
  have htj1 := s1 _ _ htj
  have ht1 := s1 _ _ ht
  generalize upd H q1 (.tup [V.ref ti, V.ref tj]) = H1 at s1 hp1 LA1 rvi1 rvj1 h11 hti1 htj1 ht1 ⊢
  refine ⟨_, rfl, d, _, rfl, lg_zooms h11, _, rfl, by omega, by omega, fun D hD => ?_⟩
  refine lc_fm (walk_range (lo := 0) (n := lo.zooms.toNat)) (zmF r q) hD (by rw [sizeLine_eq]; omega) (fun _ _ => trivial) ?_ ?_
  · rintro n x H2 H3 Ky Kn hn s2 ⟨rfl, rfl⟩ ky kn
    refine ⟨rfl, _, rfl, _, rfl, _, _, rfl, r, _, rvi1.same s2, rfl, _, rfl, ?_⟩
    refine ite2 (fun h0 => ?_) (fun h0 => ?_)
    · refine ⟨_, rfl, _, rfl, _, _, rfl, q, _, rvj1.same s2, rfl, _, rfl, ?_⟩
      refine ite2 (fun h0' => ?_) (fun h0' => ?_)
      · refine ⟨_, rfl, ky _ _ ?_ (Same.refl _)⟩
        unfold zmF
        rw [h0, h0']
        rfl
      · refine kn _ ?_ (Same.refl _)
        unfold zmF
        rw [h0, Bool.true_and, if_neg h0']
    · refine kn _ ?_ (Same.refl _)
      unfold zmF
      rw [Bool.eq_false_iff.mpr h0, Bool.false_and]
      rfl
  intro H2 s2 hD2
  have nD : D ≠ p := hp1.ne hD
  have hp2 := hp1.same s2
  have kp2 : Kp p H H2 := Kp.of (s1.trans s2)
  have hzm : ∀ x ∈ (List.range lo.zooms.toNat).filterMap (zmF r q), ∃ n : Int, x = .int n ∧ 0 ≤ n ∧ n < lo.zooms ∧ isThere r n = true ∧ isThere q n = true := fun x hx => by
    obtain ⟨n, hn, e⟩ := List.mem_filterMap.mp hx
    rw [List.mem_range] at hn
    unfold zmF at e
    split at e
    · rename_i hc
      rw [Bool.and_eq_true] at hc
      exact ⟨_, (Option.some.inj e).symm, by omega, by omega, hc.1, hc.2⟩
    · cases e
  have hzl := fm_len (zmF r q) lo.zooms.toNat
  generalize (List.range lo.zooms.toNat).filterMap (zmF r q) = zs at hD2 hzm hzl
  refine ⟨_, rfl, (by show 0 ≤ sizeLine; decide), fun e0 he0 => ⟨D, e0, zs, rfl, rfl, SqL.of (same_new he0 _ _ hD2), upd_same, _, rfl, ?_⟩⟩
  have s3 := same_new (o := .lst []) he0
  have hp3 := hp2.same s3
  have kp3 := kp2.trans (Kp.of s3)
  have hD3 := s3 _ _ hD2
  have LA3 := (LA1.same s2).same s3
  have hti3 := s3 _ _ (s2 _ _ hti1)
  have htj3 := s3 _ _ (s2 _ _ htj1)
  have ht3 := s3 _ _ (s2 _ _ ht1)
  generalize upd H2 e0 (.lst []) = H3 at s3 hp3 kp3 hD3 LA3 hti3 htj3 ht3 ⊢
  cases hzs : zs.isEmpty with
  | true =>
    refine ⟨_, rfl, _, rfl, (by show 3 ≤ sizeLine; decide), fun a1 ha1 => ?_⟩
    have s5 := same_new (o := .lst [V.int 20, V.int 400, V.int 9999]) ha1
    refine of_q (hp3.same s5) upd_same (hp3.ne ha1) (by show 0 < 3; decide) (by show 3 ≤ 1000000; decide) fun x H6 hx hp6 k6 => ?_
    obtain ⟨y, rfl, hy1, hy2⟩ : ∃ y : Int, x = .int y ∧ 1 ≤ y ∧ y ≤ 9999 := by
      rcases mem3 hx with rfl | rfl | rfl <;> exact ⟨_, rfl, by decide, by decide⟩
    refine take_q hp6 (by omega) (by omega) fun z H7 z0 z1 hp7 k7 => ?_
    exact ⟨_, _, rfl, rfl, k _ _ (by omega) (by omega) (hp7.mono (by omega)) (((kp3.trans (Kp.of s5)).trans k6).trans k7)⟩
  | false =>
    refine ⟨_, rfl, take_q hp3 (by decide) (by decide) fun c H4 c0 c1 hp4 k4 => ?_⟩
    have kp4 := kp3.trans k4
    refine ⟨rfl, _, rfl, ?_⟩
    refine ite2 (fun h0 => ?_) (fun h0 => ?_)
    · refine ⟨_, rfl, _, rfl, (by show 3 ≤ sizeLine; decide), fun a1 ha1 => ?_⟩
      have s5 := same_new (o := .lst [V.int 20, V.int 400, V.int 9999]) ha1
      refine of_q (hp4.same s5) upd_same (hp4.ne ha1) (by show 0 < 3; decide) (by show 3 ≤ 1000000; decide) fun x H6 hx hp6 k6 => ?_
      obtain ⟨y, rfl, hy1, hy2⟩ : ∃ y : Int, x = .int y ∧ 1 ≤ y ∧ y ≤ 9999 := by
        rcases mem3 hx with rfl | rfl | rfl <;> exact ⟨_, rfl, by decide, by decide⟩
      refine take_q hp6 (by omega) (by omega) fun z H7 z0 z1 hp7 k7 => ?_
      exact ⟨_, _, rfl, rfl, k _ _ (by omega) (by omega) (hp7.mono (by omega)) (((kp4.trans (Kp.of s5)).trans k6).trans k7)⟩
    · have hD4 := k4 _ _ nD hD3
      have hz0 : 0 < zs.length := by
        cases zs with
        | nil => cases hzs
        | cons a b => simp
      refine ⟨_, rfl, _, rfl, of_q hp4 hD4 nD hz0 (by omega) fun x H5 hx hp5 k5 => ?_⟩
      obtain ⟨n, rfl, hn0, hn1, hni, hnj⟩ := hzm x hx
      have LA4 := LA3.kp hp3 k4
      have LA5 := LA4.kp hp4 k5
      have tk5 := (hp3.tk k4).trans (hp4.tk k5)
      have kp5 := kp4.trans k5
      have oki := rowOk_iff.mp (ok.ok r (List.mem_of_getElem? hri))
      have okj := rowOk_iff.mp (ok.ok q (List.mem_of_getElem? hrj))
      obtain ⟨_, _, oi3, _, oi5, oi6, oi7, oi8⟩ := oki
      obtain ⟨_, _, oj3, _, oj5, oj6, oj7, oj8⟩ := okj
      refine ⟨_, rfl, _, rfl, t, _, _, _, rfl, rfl, SqT.of (tk5 _ _ ht3), rfl, _, rfl, ti, _, _, _, rfl, rfl, SqT.of (tk5 _ _ hti3), rfl, _, rfl, _, _, _, _, rfl, lo, i, r, r.most, n, LA5, hz5, rfl, hri, rfl, by omega, by omega, rfl, hn0, hn1, hni, oi3, fun H6 s6 => ?_⟩
      have tk6 := tk5.trans (Same.tk s6)
      refine ⟨_, rfl, _, rfl, t, _, _, _, rfl, rfl, SqT.of (tk6 _ _ ht3), rfl, _, rfl, tj, _, _, _, rfl, rfl, SqT.of (tk6 _ _ htj3), rfl, _, rfl, _, _, _, _, rfl, lo, j, q, q.most, n, LA5.same s6, hz5, rfl, hrj, rfl, by omega, by omega, rfl, hn0, hn1, hnj, oj3, fun H7 s7 => ?_⟩
      refine ⟨_, _, rfl, rfl, ?_⟩
      have hp7 := (hp5.same s6).same s7
      refine ⟨_, rfl, _, rfl, _, rfl, _, rfl, take_q hp7 (by decide) (by decide) fun b H8 b0 b1 hp8 k8 => ?_⟩
      refine ⟨(by show 5 ≤ sizeLine; decide), fun a1 ha1 => ?_⟩
      have s9 := same_new (o := .lst [V.int 0, V.int (-1), V.int 1, V.int 0, V.int b]) ha1
      refine of_q (hp8.same s9) upd_same (hp8.ne ha1) (by show 0 < 5; decide) (by show 5 ≤ 1000000; decide) fun x H10 hx hp10 k10 => ?_
      obtain ⟨y, rfl⟩ : ∃ y : Int, x = .int y := by
        simp only [List.mem_cons, List.not_mem_nil, or_false] at hx
        rcases hx with rfl | rfl | rfl | rfl | rfl <;> exact ⟨_, rfl⟩
      refine ⟨_, _, rfl, rfl, .inl ⟨_, rfl, _, _, rfl, _, _, rfl, k _ _ (clampB _).1 (clampB _).2 (hp10.mono (by omega)) (((((kp5.trans (Kp.of s6)).trans (Kp.of s7)).trans k8).trans (Kp.of s9)).trans k10)⟩⟩
end
end SK

set_option maxHeartbeats 4000000
namespace SL
open PySem PySem.Spec PyProof.Rows L2
def spLoreL : Sp := sp4 fun a b c d H Q _ => ∃ (p : Addr) (z m s : Int) (f : Nat), a = .ref p ∧ b = .int z ∧ c = .int m ∧ d = .int s ∧ 1 ≤ z ∧ z ≤ 5 ∧ 1 ≤ m ∧ m ≤ 4 ∧ 0 ≤ s ∧ s ≤ 1000 ∧ Pt p (f + 300) H ∧
  ∀ (v : V) (lo : Lore) (H' : Hp), LoreOk lo → lo.zooms ≤ z → (lo.rows.length : Int) ≤ m → LoreAt H' v lo → Pt p f H' → Kp p H H' → Q v H'
/-- a lore under way -/
structure LS (p d B F L : Addr) (g : Nat) (H H4 : Hp) (lo : Lore) : Prop where
  kp : Kp p H H4
  pt : Pt p g H4
  dd : H4 d = some (.dK [(.inr "zooms", .int lo.zooms), (.inr "beside", .ref B), (.inr "far", .ref F), (.inr "classes", .ref L)])
  be : ∃ vs, H4 B = some (.lst vs) ∧ RvL H4 vs (lo.beside.map pairD)
  fa : ∃ vs, H4 F = some (.lst vs) ∧ RvL H4 vs (lo.far.map farD)
  cl : ClsAt H4 L lo.rows
section
variable {p d B F L P : Addr} {g g' : Nat} {H H4 H5 : Hp} {lo : Lore}
theorem LS.at (c : LS p d B F L g H H4 lo) : LoreAt H4 (.ref d) lo := ⟨d, B, F, L, rfl, c.dd, c.be, c.fa, c.cl⟩
theorem LS.mono (c : LS p d B F L g H H4 lo) (e : g' ≤ g) : LS p d B F L g' H H4 lo := ⟨c.kp, c.pt.mono e, c.dd, c.be, c.fa, c.cl⟩
theorem LS.draw (c : LS p d B F L g H H4 lo) (k : Kp p H4 H5) (pt : Pt p g' H5) : LS p d B F L g' H H5 lo := by
  obtain ⟨v1, h2, h3⟩ := c.be
  obtain ⟨v2, h4, h5⟩ := c.fa
  exact ⟨c.kp.trans k, pt, k _ _ (c.pt.neD c.dd) c.dd, ⟨v1, k _ _ (c.pt.neT h2 h3 (tupP _)) h2, h3.tk (c.pt.tk k) (pairD_fz _)⟩, ⟨v2, k _ _ (c.pt.neT h4 h5 (tupF _)) h4, h5.tk (c.pt.tk k) (farD_fz _)⟩, c.cl.kp c.pt (c.cl.ne c.pt) k⟩
theorem LS.same (c : LS p d B F L g H H4 lo) (s : Same H4 H5) : LS p d B F L g H H5 lo := by
  obtain ⟨v1, h2, h3⟩ := c.be
  obtain ⟨v2, h4, h5⟩ := c.fa
  exact ⟨c.kp.trans (Kp.of s), c.pt.same s, s _ _ c.dd, ⟨v1, s _ _ h2, h3.same s⟩, ⟨v2, s _ _ h4, h5.same s⟩, c.cl.same s⟩
theorem LS.addB (c : LS p d B F L g H H4 lo) (hB : H B = none) (nBF : B ≠ F) (nBL : B ≠ L) {vs : List V} {v : V} {q : Nat × Nat} (hv : H4 B = some (.lst vs)) (rv : Rv H4 v (pairD q)) :
    LS p d B F L g H (upd H4 B (.lst (vs ++ [v]))) { lo with beside := lo.beside ++ [q] } := by
  obtain ⟨v1, h2, h3⟩ := c.be
  rw [hv] at h2
  cases h2
  obtain ⟨v2, h4, h5⟩ := c.fa
  obtain ⟨v3, h6, h7⟩ := c.cl
  have tk : Tk H4 (upd H4 B (.lst (vs ++ [v]))) := Tk.updL hv
  refine ⟨c.kp.put hB, c.pt.upd (c.pt.neT hv h3 (tupP _)), ?_, ⟨_, upd_same, ?_⟩, ⟨v2, by rw [upd_ne nBF.symm]; exact h4, h5.tk tk (farD_fz _)⟩, ⟨v3, by rw [upd_ne nBL.symm]; exact h6, h7.tk tk (clD_fz _)⟩⟩
  · rw [upd_ne]
    · exact c.dd
    · intro e
      have := c.dd
      rw [e, hv] at this
      cases this
  · rw [List.map_append]
    exact (h3.tk tk (pairD_fz _)).snoc (rv.tk tk rfl)
theorem LS.addF (c : LS p d B F L g H H4 lo) (hF : H F = none) (nBF : B ≠ F) (nFL : F ≠ L) {vs : List V} {v : V} {q : (Nat × Nat) × Int} (hv : H4 F = some (.lst vs)) (rv : Rv H4 v (farD q)) :
    LS p d B F L g H (upd H4 F (.lst (vs ++ [v]))) { lo with far := lo.far ++ [q] } := by
  obtain ⟨v2, h2, h3⟩ := c.fa
  rw [hv] at h2
  cases h2
  obtain ⟨v1, h4, h5⟩ := c.be
  obtain ⟨v3, h6, h7⟩ := c.cl
  have tk : Tk H4 (upd H4 F (.lst (vs ++ [v]))) := Tk.updL hv
  refine ⟨c.kp.put hF, c.pt.upd (c.pt.neT hv h3 (tupF _)), ?_, ⟨v1, by rw [upd_ne nBF]; exact h4, h5.tk tk (pairD_fz _)⟩, ⟨_, upd_same, ?_⟩, ⟨v3, by rw [upd_ne nFL.symm]; exact h6, h7.tk tk (clD_fz _)⟩⟩
  · rw [upd_ne]
    · exact c.dd
    · intro e
      have := c.dd
      rw [e, hv] at this
      cases this
  · rw [List.map_append]
    exact (h3.tk tk (farD_fz _)).snoc (rv.tk tk rfl)
/-- the list of pairs beside it -/
structure PL (P : Addr) (vs : List V) (ds : List (Nat × Nat)) (H4 : Hp) : Prop where
  at_ : H4 P = some (.lst vs)
  rv : RvL H4 vs (ds.map pairD)
variable {vs : List V} {ds : List (Nat × Nat)}
theorem PL.draw (h : PL P vs ds H4) (hp : Pt p g H4) (k : Kp p H4 H5) : PL P vs ds H5 := ⟨k _ _ (hp.neT h.at_ h.rv (tupP _)) h.at_, h.rv.tk (hp.tk k) (pairD_fz _)⟩
theorem PL.same (h : PL P vs ds H4) (s : Same H4 H5) : PL P vs ds H5 := ⟨s _ _ h.at_, h.rv.same s⟩
theorem PL.upd {l : List V} {o : HO} (h : PL P vs ds H4) (hB : H4 B = some (.lst l)) (n : P ≠ B) : PL P vs ds (L2.upd H4 B o) := ⟨by rw [upd_ne n]; exact h.at_, h.rv.tk (Tk.updL hB) (pairD_fz _)⟩
end
theorem sub_snoc {α : Type} {l m : List α} {i : Nat} {a : α} (h : l.Sublist (m.take i)) (e : m[i]? = some a) : (l ++ [a]).Sublist (m.take (i + 1)) := by
  rw [List.take_add_one, e]
  exact h.append (List.Sublist.refl _)
theorem sub_next {α : Type} {l m : List α} {i : Nat} (h : l.Sublist (m.take i)) : l.Sublist (m.take (i + 1)) := h.trans (List.take_sublist_take_left (by omega))
/-- if share > 0 and take(pot, share) == 0 -/
theorem ifq {t : TS} {D : Ends} {σ : L2.St} {H : Hp} {p : Addr} {s0 : Int} {g : Nat} (h0 : σ[0]? = some (some (.ref p))) (h3 : σ[3]? = some (some (.int s0))) (hs : s0 ≤ 1000) (hp : Pt p (g + 1) H)
    (hn : ∀ H', Kp p H H' → Pt p g H' → D.nx σ H') (hy : ∀ H', Kp p H H' → Pt p g H' → t D σ H') :
    tIfS (tAnd (tTest (tOp (rI0 fun i j => V.bl (decide (j < i))) (tVar 3) (tC (V.int 0)))) (tTest (tOp rEq (tCall spTakeL [] E0 (tCons (tVar 0) (tCons (tVar 3) tNil))) (tC (V.int 0))))) t tNext D σ H := by
  refine ⟨_, h3, _, _, rfl, rfl, _, rfl, ?_⟩
  refine ite2 (fun c0 => ?_) (fun c0 => ?_)
  · have c0' : 0 < s0 := of_decide_eq_true c0
    refine ⟨_, h0, _, h3, take_q hp c0' (by omega) fun c H4 c0 c1 hp4 k4 => ?_⟩
    refine ⟨rfl, _, rfl, ?_⟩
    refine ite2 (fun c2 => ?_) (fun c2 => ?_)
    · exact hy H4 k4 hp4
    · exact hn H4 k4 hp4
  · exact hn H (Kp.refl _ _) (hp.mono (by omega))
end SL
namespace SK
open PySem PySem.Spec PyProof.Rows L2 SL
section
variable {w : World} {K : PySem.W.Frag} {mg : Str → Option Value} {base : Heap}
abbrev n_law_lore : List Str := ["_law_pot_here", "_law_zooms", "_law_most", "_law_share", "_law_lore_here", "_law_pair"]
theorem sc_law_lore : FnScope n_law_lore ["_law_pot_here", "_law_zooms", "_law_most", "_law_share"] (defScope d_law_lore) := ⟨rfl, rfl, rfl, by decide +kernel, rfl, by decide +kernel, by decide +kernel⟩
theorem ok_law_lore (T : Top w K mg) : Has prg w K mg base CX0 5 (He.ga K "_law_lore") ["_law_pot_here", "_law_zooms", "_law_most", "_law_share"] spLoreL := by
  obtain ⟨fd, F⟩ := T.F_law_lore
  obtain ⟨fd_law_take, G_law_take, b_law_take, k_law_take⟩ := ok_law_take (base := base) T
  obtain ⟨fd_law_classes, G_law_classes, b_law_classes, k_law_classes⟩ := ok_law_classes (base := base) T
  obtain ⟨fd_law_pairs, G_law_pairs, b_law_pairs, k_law_pairs⟩ := ok_law_pairs (base := base) T
  obtain ⟨fd_law_distance, G_law_distance, b_law_distance, k_law_distance⟩ := ok_law_distance (base := base) T
  refine ⟨fd, F.ok (k := 4) sc_law_lore (fun _ _ _ _ h => sp4_len h) (fun cdv A outer s H vs Q E hr h => ?_), F.bindsN (fun _ _ _ _ _ _ us hl => match us, hl with | [_, _, _, _], _ => rfl), F.kp⟩
  obtain ⟨v0, v1, v2, v3, rfl, h⟩ := h
  refine ⟨_, PSs.nox (pss_cons (ps_set (i := 4) sc_law_lore.nd rfl (Or.inl rfl) (pe_disp (pps_cons pe_str (pe_op op_add pe_int (pe_call G_law_take (hr.mono (by decide)) (by rfl) T.g_law_take k_law_take b_law_take .nil pass0 (pa_cons (pv 0) (pa_cons (pv 1) pa_nil)))) (pps_cons pe_str (pe_lst pa_nil) (pps_cons pe_str (pe_lst pa_nil) pps_nil))) (by rfl) (by rfl) (fun z => by cases z) (by decide)))
    (pss_cons (ps_dput (hu_of hr) (pv 4) pe_str (pe_call G_law_classes (hr.mono (by decide)) (by rfl) T.g_law_classes k_law_classes b_law_classes .nil pass0 (pa_cons (pv 0) (pa_cons (pe_dget (hu_of hr) (pv 4) pe_str (fun _ _ => rfl)) (pa_cons (pv 2) pa_nil)))) rfl)
    (pss_cons (ps_for PassesOwn.never rfl (pi_list (pe_call G_law_pairs (hr.mono (by decide)) (by rfl) T.g_law_pairs k_law_pairs b_law_pairs .nil pass0 (pa_cons (pe_callB call_len (by rfl) T.b_len (by decide +kernel) (pa_cons (pe_dget (hu_of hr) (pv 4) pe_str (fun _ _ => rfl)) pa_nil)) pa_nil))) (pg_name (i := 5) sc_law_lore.nd rfl (Or.inl rfl)) (pss_cons (ps_if (PW.pt (pw_and (pt_cmpR op_gt (pv 3) pe_int (nomark _)) (pw_and1 (pt_cmpR op_eq (pe_call G_law_take (hr.mono (by decide)) (by rfl) T.g_law_take k_law_take b_law_take .nil pass0 (pa_cons (pv 0) (pa_cons (pv 3) pa_nil))) pe_int (nomark _))))) (pss_one (ps_expr (pe_bm PySem.F.plainAttrs_list PySem.F.slot_list_append PySem.F.type_list_append mt_append (pe_dget (hu_of hr) (pv 4) pe_str (fun _ _ => rfl)) (pa_cons (pv 5) pa_nil)))) pss_nil)
    (pss_one (ps_if (PW.pt (pw_and (pt_cmpR op_gt (pv 3) pe_int (nomark _)) (pw_and1 (pt_cmpR op_eq (pe_call G_law_take (hr.mono (by decide)) (by rfl) T.g_law_take k_law_take b_law_take .nil pass0 (pa_cons (pv 0) (pa_cons (pv 3) pa_nil))) pe_int (nomark _))))) (pss_one (ps_expr (pe_bm PySem.F.plainAttrs_list PySem.F.slot_list_append PySem.F.type_list_append mt_append (pe_dget (hu_of hr) (pv 4) pe_str (fun _ _ => rfl)) (pa_cons (pe_tup (pa_cons (pv 5) (pa_cons (pe_call G_law_distance (hr.mono (by decide)) (by rfl) T.g_law_distance k_law_distance b_law_distance .nil pass0 (pa_cons (pv 0) (pa_cons (pv 4) (pa_cons (pv 5) pa_nil)))) pa_nil))) pa_nil)))) pss_nil))))
    (pss_one (ps_ret (pv 4)))))), ?_⟩
  obtain ⟨p, z, m, s0, f, rfl, rfl, rfl, rfl, hz1, hz5, hm1, hm4, hs0, hs1, hp, k⟩ := h
  refine fun d hd => ?_
  have s1 := same_new (o := .dK []) hd
  have hp1 := hp.same s1
  have nd : d ≠ p := hp.ne hd
  refine ⟨_, rfl, _, rfl, take_q hp1 (by omega) (by omega) fun r H2 r0 r1 hp2 k2 => ⟨_, _, rfl, rfl, (by show 0 ≤ sizeLine; decide), fun B hB => ⟨(by show 0 ≤ sizeLine; decide), fun F' hF => ?_⟩⟩⟩
  have s3 := same_new (o := .lst []) hB
  have s4 := same_new (o := .lst []) hF
  have hB4 : upd (upd H2 B (.lst [])) F' (.lst []) B = some (.lst []) := s4 _ _ upd_same
  have hF4 : upd (upd H2 B (.lst [])) F' (.lst []) F' = some (.lst []) := upd_same
  have hd2 : H2 d = some (.dK []) := k2 _ _ nd upd_same
  have hd4 := s4 _ _ (s3 _ _ hd2)
  have hp4 := (hp2.same s3).same s4
  have k4 : Kp p H (upd (upd H2 B (.lst [])) F' (.lst [])) := (((Kp.of s1).trans k2).trans (Kp.of s3)).trans (Kp.of s4)
  have hBn : H B = none := ((Kp.of s1).trans k2).free (hp2.ne hB) hB
  have hFn : H F' = none := (((Kp.of s1).trans k2).trans (Kp.of s3)).free ((hp2.same s3).ne hF) hF
  have nBF : B ≠ F' := ne_of_none (show upd H2 B (.lst []) B = some (.lst []) from upd_same) hF
  have ndB : d ≠ B := ne_of_none hd2 hB
  have ndF : d ≠ F' := ne_of_none (s3 _ _ hd2) hF
  generalize upd (upd H2 B (.lst [])) F' (.lst []) = H4 at hB4 hF4 hd4 hp4 k4 ⊢
  refine ⟨hd4, [(.inr "zooms", .int (1 + r)), (.inr "beside", .ref B), (.inr "far", .ref F')], rfl, (by show 3 ≤ 15; decide), ?_⟩
  have k5 : Kp p H (upd H4 d (.dK (mergeK [] [(.inr "zooms", .int (1 + r)), (.inr "beside", .ref B), (.inr "far", .ref F')]))) := k4.put hd
  have hp5 := hp4.upd (o := .dK (mergeK [] [(.inr "zooms", .int (1 + r)), (.inr "beside", .ref B), (.inr "far", .ref F')])) nd
  have hd5 : upd H4 d (.dK (mergeK [] [(.inr "zooms", .int (1 + r)), (.inr "beside", .ref B), (.inr "far", .ref F')])) d = some (.dK [(.inr "zooms", .int (1 + r)), (.inr "beside", .ref B), (.inr "far", .ref F')]) := by
    rw [upd_same]
    rfl
  have hB5 : upd H4 d (.dK (mergeK [] [(.inr "zooms", .int (1 + r)), (.inr "beside", .ref B), (.inr "far", .ref F')])) B = some (.lst []) := by
    rw [upd_ne ndB.symm]
    exact hB4
  have hF5 : upd H4 d (.dK (mergeK [] [(.inr "zooms", .int (1 + r)), (.inr "beside", .ref B), (.inr "far", .ref F')])) F' = some (.lst []) := by
    rw [upd_ne ndF.symm]
    exact hF4
  generalize upd H4 d (.dK (mergeK [] [(.inr "zooms", .int (1 + r)), (.inr "beside", .ref B), (.inr "far", .ref F')])) = H5 at k5 hp5 hd5 hB5 hF5 ⊢
  obtain ⟨mn, rfl⟩ : ∃ mn : Nat, m = (mn : Int) := ⟨m.toNat, by omega⟩
  refine ⟨_, rfl, _, rfl, d, _, rfl, DGet.k (k := .inr "zooms") hd5, _, rfl, _, _, _, rfl, p, 1 + r, mn, f + 159, rfl, rfl, rfl, by omega, by omega, by omega, by omega, hp5, fun L rows H6 hr1 hr4 hro hLn nLp hcl hp6 k6 => ?_⟩
  have hd6 := k6 _ _ nd hd5
  have nBp : B ≠ p := hp2.ne hB
  have nFp : F' ≠ p := (hp2.same s3).ne hF
  have hB6 := k6 _ _ nBp hB5
  have hF6 := k6 _ _ nFp hF5
  have nBL : B ≠ L := ne_of_none hB5 hLn
  have nFL : F' ≠ L := ne_of_none hF5 hLn
  refine ⟨_, rfl, d, _, rfl, DPut.k (k := .inr "classes") hd6 (by show 3 < sizeLine; decide), ?_⟩
  have c7 : LS p d B F' L (f + 159) H (upd H6 d (.dK (putK [(.inr "zooms", .int (1 + r)), (.inr "beside", .ref B), (.inr "far", .ref F')] (.inr "classes") (.ref L)))) ⟨1 + r, rows, [], []⟩ := by
    obtain ⟨cvs, hc1, hc2⟩ := hcl
    have tk : Tk H6 (upd H6 d (.dK (putK [(.inr "zooms", .int (1 + r)), (.inr "beside", .ref B), (.inr "far", .ref F')] (.inr "classes") (.ref L)))) := Tk.upd fun xs e => by
      rw [hd6] at e
      cases e
    have nLd : L ≠ d := fun e => by
      rw [e, hd6] at hc1
      cases hc1
    exact ⟨(k5.trans k6).put hd, hp6.upd nd, by rw [upd_same]; rfl, ⟨[], by rw [upd_ne ndB.symm]; exact hB6, .nil⟩, ⟨[], by rw [upd_ne ndF.symm]; exact hF6, .nil⟩, ⟨cvs, by rw [upd_ne nLd]; exact hc1, hc2.tk tk (clD_fz _)⟩⟩
  generalize upd H6 d (.dK (putK [(.inr "zooms", .int (1 + r)), (.inr "beside", .ref B), (.inr "far", .ref F')] (.inr "classes") (.ref L))) = H7 at c7 ⊢
  obtain ⟨cvs, hc1, hc2⟩ := id c7.cl
  refine ⟨_, rfl, d, _, rfl, lg_classes c7.dd, _, rows.length, rfl, .inl ⟨_, SqL.of hc1, by rw [hc2.length, List.length_map]⟩, _, rfl, rows.length, rfl, by omega, fun P vs H8 s8 hPn hP8 rvP => ?_⟩
  have c8 := c7.same s8
  have pl8 : PL P vs (allPairs rows.length) H8 := ⟨hP8, rvP⟩
  have nPB : P ≠ B := by
    obtain ⟨bv, hb, _⟩ := c7.be
    exact (ne_of_none hb hPn).symm
  have nPF : P ≠ F' := by
    obtain ⟨bv, hb, _⟩ := c7.fa
    exact (ne_of_none hb hPn).symm
  have hvl : vs.length = (allPairs rows.length).length := by rw [rvP.length, List.length_map]
  have hap := allPairs_len (m := rows.length) (by omega)
  refine ⟨P, rfl, ⟨_, SqL.of hP8⟩, ?_⟩
  refine for_it (walk_list (xs := vs)) (fun i σ H4 => ∃ (be : List (Nat × Nat)) (fa : List ((Nat × Nat) × Int)) (o5 : Option V), σ = [some (.ref p), some (.int z), some (.int mn), some (.int s0), some (.ref d), o5] ∧
      LS p d B F' L (f + 8 * (10 - i)) H H4 ⟨1 + r, rows, be, fa⟩ ∧ PL P vs (allPairs rows.length) H4 ∧ be.Sublist ((allPairs rows.length).take i) ∧ (fa.map (·.1)).Sublist ((allPairs rows.length).take i) ∧ ∀ q ∈ fa, 1 ≤ q.2 ∧ q.2 ≤ 9999)
    ⟨[], [], none, rfl, c8.mono (by omega), pl8, List.nil_sublist _, List.nil_sublist _, fun _ h => absurd h List.not_mem_nil⟩ (fun _ _ _ _ ⟨_, _, _, _, _, pl, _⟩ => SqL.of pl.at_) ?_ ?_
  · rintro i x σ H4 H5 hi ⟨be, fa, o5, rfl, c4, pl4, sb, sf, di⟩ ⟨rfl, hx⟩
    have hi' : i < (allPairs rows.length).length := by rw [← hvl]; exact hi
    obtain ⟨pr, hpr⟩ : ∃ pr, (allPairs rows.length)[i]? = some pr := ⟨_, List.getElem?_eq_getElem hi'⟩
    have hlt := allPairs_lt (List.mem_of_getElem? hpr)
    obtain ⟨x', hx', rvx⟩ := pl4.rv.get (i := i) (d := SL.pairD pr) (by rw [List.getElem?_map, hpr]; rfl)
    rw [hx] at hx'
    cases hx'
    refine ifq (g := f + 8 * (10 - (i + 1)) + 7) rfl rfl hs1 (c4.pt.mono (by omega)) (fun H6 k6 hp6 => ?na) (fun H6 k6 hp6 => ?nb)
    case' na =>
      have rv6 : Rv H6 x (SL.pairD pr) := rvx.tk (c4.pt.tk k6) rfl
      have c6 := c4.draw k6 hp6
      have pl6 := pl4.draw c4.pt k6
      have sb6 := sub_next sb
    case' nb =>
      have rv6 : Rv H6 x (SL.pairD pr) := rvx.tk (c4.pt.tk k6) rfl
      have c6 := c4.draw k6 hp6
      have pl6 := pl4.draw c4.pt k6
      obtain ⟨bv, hb1, hb2⟩ := id c6.be
      have hbl : bv.length ≤ 10 := by
        rw [hb2.length, List.length_map]
        exact Nat.le_trans sb.length_le (Nat.le_trans (List.length_take_le _ _) (by omega))
      refine ⟨_, rfl, d, _, rfl, lg_beside c6.dd, .inl ⟨rfl, _, SqL.of hb1⟩, _, rfl, B, _, _, rfl, rfl, hb1, by rw [sizeLine_eq]; omega, ?_⟩
      have rv7 : Rv (upd H6 B (.lst (bv ++ [x]))) x (SL.pairD pr) := rv6.tk (Tk.updL hb1) rfl
      have c7 := c6.addB hBn nBF nBL hb1 rv6
      have pl7 := pl6.upd (o := .lst (bv ++ [x])) hb1 nPB
      have sb6 := sub_snoc sb hpr
      clear rv6 c6 pl6 hb2 hbl sb
      revert rv7 c7 pl7 sb6
      clear hb1
      generalize upd H6 B (.lst (bv ++ [x])) = H7
      clear k6 hp6
      clear H6
      intro rv6 c6 pl6 sb6
      revert rv6 c6 pl6 sb6
      dsimp only
      generalize be ++ [pr] = be
      intro rv6 c6 pl6 sb6
    all_goals
      refine ifq (g := f + 8 * (10 - (i + 1)) + 6) rfl rfl hs1 (c6.pt.mono (by omega)) (fun H8 k8 hp8 => ?_) (fun H8 k8 hp8 => ?_)
      · exact ⟨be, fa, _, rfl, (c6.draw k8 hp8).mono (by omega), pl6.draw c6.pt k8, sb6, sub_next sf, di⟩
      · have rv8 : Rv H8 x (SL.pairD pr) := rv6.tk (c6.pt.tk k8) rfl
        have c8 := c6.draw k8 hp8
        have pl8 := pl6.draw c6.pt k8
        obtain ⟨bv, hb1, hb2⟩ := id c8.fa
        have hbl : bv.length ≤ 10 := by
          rw [hb2.length, List.length_map]
          have := sf.length_le
          rw [List.length_map] at this
          exact Nat.le_trans this (Nat.le_trans (List.length_take_le _ _) (by omega))
        obtain ⟨ri, hri⟩ : ∃ ri, rows[pr.1]? = some ri := ⟨_, List.getElem?_eq_getElem (by omega)⟩
        obtain ⟨rj, hrj⟩ : ∃ rj, rows[pr.2]? = some rj := ⟨_, List.getElem?_eq_getElem (by omega)⟩
        refine ⟨_, rfl, d, _, rfl, lg_far c8.dd, .inl ⟨rfl, _, SqL.of hb1⟩, _, rfl, _, rfl, _, rfl, _, rfl, _, _, _, rfl, p, f + 8 * (10 - (i + 1)) + 1, _, pr.1, pr.2, ri, rj, rfl, c8.pt, c8.at, by show 1 ≤ 1 + r; omega, by show 1 + r ≤ 5; omega, hro, rv8, hri, hrj, fun n H9 hn1 hn2 hp9 k9 => ?_⟩
        have c9 := c8.draw k9 hp9
        have pl9 := pl8.draw c8.pt k9
        have rv9 : Rv H9 x (SL.pairD pr) := rv8.tk (c8.pt.tk k9) rfl
        refine ⟨(by show 2 ≤ sizeLine; decide), fun t ht => ?_⟩
        have s10 := same_new (o := .tup [x, V.int n]) ht
        have c10 := c9.same s10
        have pl10 := pl9.same s10
        have rvt : Rv (upd H9 t (.tup [x, V.int n])) (.ref t) (SL.farD (pr, n)) := .tup upd_same (.cons (rv9.same s10) (.cons (.int _) .nil))
        have hb9 := s10 _ _ (k9 _ _ (c8.pt.neT hb1 hb2 (tupF _)) hb1)
        refine ⟨F', _, _, rfl, rfl, hb9, by rw [sizeLine_eq]; omega, ?_⟩
        refine ⟨be, fa ++ [(pr, n)], _, rfl, (c10.addF hFn nBF nFL hb9 rvt).mono (by omega), pl10.upd hb9 nPF, sb6, ?_, fun q hq => ?_⟩
        · rw [List.map_append]
          exact sub_snoc sf hpr
        · rcases List.mem_append.mp hq with hq | hq
          · exact di q hq
          · rw [List.mem_singleton.mp hq]
            exact ⟨hn1, hn2⟩
  · rintro σ H4 ⟨be, fa, o5, rfl, c4, pl4, sb, sf, di⟩
    rw [hvl, List.take_length] at sb sf
    exact ⟨_, rfl, k (.ref d) ⟨1 + r, rows, be, fa⟩ H4 ⟨by show 1 ≤ 1 + r; omega, by show 1 + r ≤ 5; omega, hr1, by show rows.length ≤ 4; omega, hro, sb, sf, di⟩ (by show 1 + r ≤ z; omega) (by show (rows.length : Int) ≤ mn; omega) c4.at (c4.pt.mono (by omega)) c4.kp⟩
end
end SK

set_option maxHeartbeats 4000000
namespace SL
open PySem PySem.Spec PyProof.Rows L2
def spTextL : Sp := sp1 fun a H Q _ => ∃ lo, LoreAt H a lo ∧ LoreOk lo ∧ ∀ H', Same H H' → Q (.str (textOf lo)) H'
def LV (lo : Lore) (k : Nat) : List V := ((linesOf lo).take k).map fun ws => V.str (lineOf ws)
theorem LV_step {lo : Lore} {k : Nat} {ws : List Str} (h : (linesOf lo)[k]? = some ws) : LV lo k ++ [V.str (lineOf ws)] = LV lo (k + 1) := by
  unfold LV
  rw [List.take_add_one, h, List.map_append]
  rfl
theorem LV_len (lo : Lore) (k : Nat) : (LV lo k).length ≤ k := by
  unfold LV
  rw [List.length_map]
  exact List.length_take_le _ _
theorem ln_row {lo : Lore} {i : Nat} {r : Row} (h : lo.rows[i]? = some r) : (linesOf lo)[1 + i]? = some (wC r) := by
  have hi := (List.getElem?_eq_some_iff.mp h).1
  unfold linesOf
  rw [Nat.add_comm, List.getElem?_cons_succ, List.getElem?_append_left (by rw [List.length_map]; exact hi), List.getElem?_map, h]
  rfl
theorem ln_be {lo : Lore} {i : Nat} {p : Nat × Nat} (h : lo.beside[i]? = some p) : (linesOf lo)[1 + lo.rows.length + i]? = some (wB lo.rows p) := by
  have hi := (List.getElem?_eq_some_iff.mp h).1
  unfold linesOf
  rw [show 1 + lo.rows.length + i = (lo.rows.length + i) + 1 by omega, List.getElem?_cons_succ, List.getElem?_append_right (by rw [List.length_map]; omega), List.length_map, Nat.add_sub_cancel_left,
    List.getElem?_append_left (by rw [List.length_map]; exact hi), List.getElem?_map, h]
  rfl
theorem ln_fa {lo : Lore} {i : Nat} {p : (Nat × Nat) × Int} (h : lo.far[i]? = some p) : (linesOf lo)[1 + lo.rows.length + lo.beside.length + i]? = some (wF lo.rows p) := by
  unfold linesOf
  rw [show 1 + lo.rows.length + lo.beside.length + i = (lo.rows.length + (lo.beside.length + i)) + 1 by omega, List.getElem?_cons_succ, List.getElem?_append_right (by rw [List.length_map]; omega), List.length_map, Nat.add_sub_cancel_left,
    List.getElem?_append_right (by rw [List.length_map]; omega), List.length_map, Nat.add_sub_cancel_left, List.getElem?_map, h]
  rfl
theorem line_zooms (n : Int) : lineOf ["zooms", numS n] = ("zooms " : Str) ++ numS n := by
  unfold lineOf
  rw [TL.join_eq]
  show ("zooms" : Str) ++ " " ++ numS n = _
  rw [show ("zooms" : Str) ++ (" " : Str) = "zooms " by decide +kernel]
theorem lgS {n : Int} (h0 : 0 ≤ n) (h1 : n < 10 ^ 9) : n.natAbs.log2 < 1920 := Nat.lt_trans (log2_small (k := 40) (by decide) (by omega)) (by decide)
theorem sum_le {B : Nat} : ∀ {ws : List Str}, (∀ w ∈ ws, w.length ≤ B) → (ws.map (·.length)).sum ≤ ws.length * B
  | [], _ => Nat.zero_le _
  | w :: ws, h => by
    have h1 := h w (by simp)
    have h2 := sum_le (B := B) (ws := ws) fun z hz => h z (List.mem_cons_of_mem _ hz)
    rw [List.map_cons, List.sum_cons, List.length_cons, Nat.add_mul]
    omega
theorem sp_len : (" " : Str).length = 1 := by decide +kernel
theorem nl_len : ("\n" : Str).length = 1 := by decide +kernel
theorem join_ok {lo : Lore} (ok : LoreOk lo) {ws : List Str} (h : ws ∈ linesOf lo) : (ws.map (·.length)).sum + ws.length * (" " : Str).length ≤ 16777216 := by
  obtain ⟨_, h2, h3⟩ := ok.short ws h
  have := sum_le (B := 12) fun w hw => (h3 w hw).2
  rw [sp_len]
  omega
theorem join_all {lo : Lore} (ok : LoreOk lo) : (((linesOf lo).map lineOf).map (·.length)).sum + ((linesOf lo).map lineOf).length * ("\n" : Str).length ≤ 16777216 := by
  have h1 := ok.count
  have := sum_le (B := 130) (ws := (linesOf lo).map lineOf) fun w hw => by
    obtain ⟨ws, hws, rfl⟩ := List.mem_map.mp hw
    exact ok.lineLen ws hws
  rw [nl_len]
  rw [List.length_map] at this ⊢
  omega
theorem nm_at {rows : List Row} {i : Nat} (h : i < rows.length) : ((rows.map (·.name)).map V.str)[i]? = some (V.str (nmAt rows i)) := by
  rw [List.getElem?_map, List.getElem?_map, (nmAt_get h).1, (nmAt_get h).2]
  rfl
theorem far_parts {H : Hp} {v : V} {p : (Nat × Nat) × Int} (h : Rv H v (farD p)) : ∃ t t', v = .ref t ∧ H t = some (.tup [.ref t', .int p.2]) ∧ H t' = some (.tup [.int p.1.1, .int p.1.2]) := by
  unfold farD at h
  cases h with
  | tup h1 h2 =>
    cases h2 with
    | cons a1 h2 =>
      cases h2 with
      | cons a2 h2 =>
        cases h2
        cases a2
        obtain ⟨t', rfl, ht'⟩ := pair_parts a1
        exact ⟨_, t', rfl, h1, ht'⟩
/-- the names, in a list of their own -/
theorem lc_names {K : PySem.W.Frag} {L : Addr} {cvs : List V} {rows : List Row} {g : TG} {tt : TT} {te : TE} {ow : List Nat} {σ : L2.St} {H1 : Hp} {D : Addr} {Qd : Hp → Prop} (hD : H1 D = none) (hL : H1 L = some (.lst cvs)) (rv : RvL H1 cvs (rows.map clD)) (hn : rows.length ≤ 1000)
    (hs : ∀ t (r : Row) u H (Ky : V → Hp → Prop) (Kn : Hp → Prop), Same H1 H → H t = some (.tup [.str r.name, .int r.first, .int r.least, .int r.most, .ref u]) → Ky (.str r.name) H → g (.ref t) (wipe σ ow) H fun σ2 H2 => wipe σ2 ow = wipe σ ow ∧ tt σ2 H2 fun b H3 => if b = true then te σ2 H3 Ky else Kn H3)
    (hd : ∀ H, Same H1 H → H D = some (.lst ((rows.map (·.name)).map V.str)) → Qd H) :
    ∃ W : Nat → Nat → Hp → Prop, (∃ m, W 0 m (upd H1 D (.lst []))) ∧ ∀ i m H, W i m H →
      ((Itl K L).stop i H ∧ Qd H) ∨ ((Itl K L).go i H ∧ ∃ Nx : Hp → Prop, (∀ H', Nx H' → ∃ m', m' < m ∧ W (i + 1) m' H') ∧ ∀ x H', (Itl K L).yld i H x H' → g x (wipe σ ow) H' fun σ2 H2 => wipe σ2 ow = wipe σ ow ∧ tt σ2 H2 fun b H3 =>
        if b = true then te σ2 H3 fun y H4 => ∃ acc, H4 D = some (.lst acc) ∧ acc.length < sizeLine ∧ Nx (upd H4 D (.lst (acc ++ [y]))) else Nx H3) := by
  have hl : cvs.length = rows.length := by rw [rv.length, List.length_map]
  refine lc_fm (walk_list (xs := cvs)) (fun i => some ((rows[i]?.map fun r => V.str r.name).getD .non)) hD (by rw [hl, sizeLine_eq]; omega) (fun H s => SqL.of (s _ _ hL)) ?_ ?_
  · rintro i v H H' Ky Kn hi s1 ⟨rfl, hv⟩ ky kn
    have hi' : i < rows.length := by rw [← hl]; exact hi
    have hr := List.getElem?_eq_getElem hi'
    obtain ⟨v', hv', rv'⟩ := rv.get (i := i) (d := clD rows[i]) (by rw [List.getElem?_map, hr]; rfl)
    rw [hv] at hv'
    cases hv'
    obtain ⟨t, u, rfl, ht, hu⟩ := cl_parts rv'
    refine hs t _ u H' Ky Kn s1 (s1 _ _ ht) (ky _ _ ?_ (Same.refl _))
    rw [hr]
    rfl
  · intro H s h
    refine hd H s ?_
    rw [h, fm_some, hl, map_get rows (fun r => V.str r.name), List.map_map]
    rfl
end SL
namespace SK
open PySem PySem.Spec PyProof.Rows L2 SL
section
variable {w : World} {K : PySem.W.Frag} {mg : Str → Option Value} {base : Heap}
abbrev n_law_text : List Str := ["_law_lore_here", "_law_lines", "_law_names", "_law_name_here", "_law_first", "_law_least", "_law_most", "_law_sizes_here", "_law_i", "_law_j", "_law_pair", "_law_distance_here", "_law_one", "_law_size"]
theorem sc_law_text : FnScope n_law_text ["_law_lore_here"] (defScope d_law_text) := ⟨rfl, rfl, rfl, by decide +kernel, rfl, by decide +kernel, by decide +kernel⟩
theorem ok_law_text (T : Top w K mg) : Has prg w K mg base CX0 1 (He.ga K "_law_text") ["_law_lore_here"] spTextL := by
  obtain ⟨fd, F⟩ := T.F_law_text
  refine ⟨fd, F.ok (k := 0) sc_law_text (fun _ _ _ _ h => sp1_len h) (fun cdv A outer s H vs Q E hr h => ?_), F.bindsN (fun _ _ _ _ _ _ us hl => match us, hl with | [_], _ => rfl), F.kp⟩
  obtain ⟨v0, rfl, h⟩ := h
  refine ⟨_, PSs.nox (pss_cons (ps_par (i := 1) (j := 2) (by rfl) sc_law_text.nd rfl rfl (by decide) rfl rfl (pa_cons (pe_lst (pa_cons (pe_op op_add_str pe_str (pe_callTy call_str_int (by rfl) T.b_str boot_str (pa_cons (pe_dget (hu_of hr) (pv 0) pe_str (fun _ _ => rfl)) pa_nil))) pa_nil)) (pa_cons (pe_lc (own := [("_law_one", 12)]) (g := gName 12) (by rfl) sc_law_text.nd (pi_list (pe_dget (hu_of hr) (pv 0) pe_str (fun _ _ => rfl))) (blkOk_by (N := n_law_text) (sc := defScope d_law_text) (own := [("_law_one", 12)]) (by decide +kernel)) (fun _ _ _ _ _ => (pg_name (i := 12) sc_law_text.nd rfl (Or.inl rfl) (.inr rfl))) (fun _ _ _ _ _ => pts_nil) (fun _ _ _ _ _ => (pe_ix (ix_tupK (K := K) rfl) (pv 12) pe_int (fun _ _ => rfl)))) pa_nil)) (by rfl))
    (pss_cons (ps_for PassesOwn.never rfl (pi_list (pe_dget (hu_of hr) (pv 0) pe_str (fun _ _ => rfl))) (pg_tup rfl (pgs_cons (pg_name (i := 3) sc_law_text.nd rfl (Or.inl rfl)) (pgs_cons (pg_name (i := 4) sc_law_text.nd rfl (Or.inl rfl)) (pgs_cons (pg_name (i := 5) sc_law_text.nd rfl (Or.inl rfl)) (pgs_cons (pg_name (i := 6) sc_law_text.nd rfl (Or.inl rfl)) (pgs_cons (pg_name (i := 7) sc_law_text.nd rfl (Or.inl rfl)) pgs_nil)))))) (pss_one (ps_expr (pe_bm PySem.F.plainAttrs_list PySem.F.slot_list_append PySem.F.type_list_append mt_append (pv 1) (pa_cons (pe_join pe_str (pe_op op_cat (pe_lst (pa_cons pe_str (pa_cons (pv 3) (pa_cons (pe_callTy call_str_int (by rfl) T.b_str boot_str (pa_cons (pv 4) pa_nil)) (pa_cons (pe_callTy call_str_int (by rfl) T.b_str boot_str (pa_cons (pv 5) pa_nil)) (pa_cons (pe_callTy call_str_int (by rfl) T.b_str boot_str (pa_cons (pv 6) pa_nil)) pa_nil)))))) (pe_lc (own := [("_law_size", 13)]) (g := gName 13) (by rfl) sc_law_text.nd (pi_tup (pv 7)) (blkOk_by (N := n_law_text) (sc := defScope d_law_text) (own := [("_law_size", 13)]) (by decide +kernel)) (fun _ _ _ _ _ => (pg_name (i := 13) sc_law_text.nd rfl (Or.inl rfl) (.inr rfl))) (fun _ _ _ _ _ => pts_nil) (fun _ _ _ _ _ => (pe_callTy call_str_int (by rfl) T.b_str boot_str (pa_cons (pv 13) pa_nil)))))) pa_nil)))))
    (pss_cons (ps_for PassesOwn.never rfl (pi_list (pe_dget (hu_of hr) (pv 0) pe_str (fun _ _ => rfl))) (pg_tup rfl (pgs_cons (pg_name (i := 8) sc_law_text.nd rfl (Or.inl rfl)) (pgs_cons (pg_name (i := 9) sc_law_text.nd rfl (Or.inl rfl)) pgs_nil))) (pss_one (ps_expr (pe_bm PySem.F.plainAttrs_list PySem.F.slot_list_append PySem.F.type_list_append mt_append (pv 1) (pa_cons (pe_join pe_str (pe_lst (pa_cons pe_str (pa_cons (pe_ix ix_list (pv 2) (pv 8) (fun _ _ => rfl)) (pa_cons (pe_ix ix_list (pv 2) (pv 9) (fun _ _ => rfl)) pa_nil))))) pa_nil)))))
    (pss_cons (ps_for PassesOwn.never rfl (pi_list (pe_dget (hu_of hr) (pv 0) pe_str (fun _ _ => rfl))) (pg_tup rfl (pgs_cons (pg_name (i := 10) sc_law_text.nd rfl (Or.inl rfl)) (pgs_cons (pg_name (i := 11) sc_law_text.nd rfl (Or.inl rfl)) pgs_nil))) (pss_one (ps_expr (pe_bm PySem.F.plainAttrs_list PySem.F.slot_list_append PySem.F.type_list_append mt_append (pv 1) (pa_cons (pe_join pe_str (pe_lst (pa_cons pe_str (pa_cons (pe_ix ix_list (pv 2) (pe_ix ix_tup (pv 10) pe_int (fun _ _ => rfl)) (fun _ _ => rfl)) (pa_cons (pe_ix ix_list (pv 2) (pe_ix ix_tup (pv 10) pe_int (fun _ _ => rfl)) (fun _ _ => rfl)) (pa_cons (pe_callTy call_str_int (by rfl) T.b_str boot_str (pa_cons (pv 11) pa_nil)) pa_nil)))))) pa_nil)))))
    (pss_one (ps_ret (pe_join pe_str (pv 1)))))))), ?_⟩
  obtain ⟨lo, LA, ok, k⟩ := h
  obtain ⟨d, B, F', L, rfl, h1, ⟨bvs, hB, rvB⟩, ⟨fvs, hF, rvF⟩, ⟨cvs, hL, rvL⟩⟩ := LA
  have hz1 := ok.z1
  have hz5 := ok.z5
  have hr4 := ok.r4
  have hcl : cvs.length = lo.rows.length := by rw [rvL.length, List.length_map]
  have hbl : bvs.length = lo.beside.length := by rw [rvB.length, List.length_map]
  have hfl : fvs.length = lo.far.length := by rw [rvF.length, List.length_map]
  have hcount := ok.count
  have hct : (linesOf lo).length = 1 + lo.rows.length + lo.beside.length + lo.far.length := by
    simp only [SL.linesOf, List.length_cons, List.length_append, List.length_map]
    omega
  have zl := (num_ok (n := lo.zooms) (by omega) (by omega)).2.2
  refine ⟨_, rfl, d, _, rfl, lg_zooms h1, _, rfl, lgS (by omega) (by omega), _, _, rfl, rfl, Nat.le_trans (show 6 + (numS lo.zooms).length ≤ 1000 by omega) (by decide), (by show 1 ≤ sizeLine; decide), fun W hW => ?_⟩
  have s1 := same_new (o := .lst [V.str (("zooms " : Str) ++ numS lo.zooms)]) hW
  refine ⟨_, rfl, d, _, rfl, lg_classes (s1 _ _ h1), L, rfl, ⟨_, SqL.of (s1 _ _ hL)⟩, fun N hN => ?_⟩
  refine lc_names hN (s1 _ _ hL) (rvL.same s1) (by omega) (fun t r u H2 Ky Kn s2 ht ky => ⟨rfl, _, rfl, t, _, _, _, rfl, rfl, SqT.of ht, rfl, ky⟩) (fun H2 s2 hN2 => ?_)
  have hW2 := s2 _ _ (show upd H W (.lst [V.str (("zooms " : Str) ++ numS lo.zooms)]) W = _ from upd_same)
  have hW2 : H2 W = some (.lst (LV lo 1)) := by
    rw [hW2, ← line_zooms]
    rfl
  have nWN : W ≠ N := ne_of_none (show upd H W (.lst [V.str (("zooms " : Str) ++ numS lo.zooms)]) W = _ from upd_same) hN
  have hNn : H N = none := s1.free hN
  have s02 := s1.trans s2
  refine ⟨_, _, rfl, ?_⟩
  refine ⟨_, rfl, d, _, rfl, lg_classes (s02 _ _ h1), L, rfl, ⟨_, SqL.of (s02 _ _ hL)⟩, ?_⟩
  refine for_it (walk_list (xs := cvs)) (fun i σ H4 => ∃ (o3 o4 o5 o6 o7 o8 o9 o10 o11 o12 o13 : Option V), σ = [some (.ref d), some (.ref W), some (.ref N), o3, o4, o5, o6, o7, o8, o9, o10, o11, o12, o13] ∧
      Same H H4 ∧ H4 W = some (.lst (LV lo (1 + i))) ∧ H4 N = some (.lst ((lo.rows.map (·.name)).map V.str)))
    ⟨_, _, _, _, _, _, _, _, _, _, _, rfl, s02, hW2, hN2⟩ (fun _ _ _ _ ⟨_, _, _, _, _, _, _, _, _, _, _, _, s4, _⟩ => SqL.of (s4 _ _ hL)) ?_ ?_
  · rintro i x σ H4 H5 hi ⟨o3, o4, o5, o6, o7, o8, o9, o10, o11, o12, o13, rfl, s4, hW4, hN4⟩ ⟨rfl, hx⟩
    have hi' : i < lo.rows.length := by rw [← hcl]; exact hi
    have hr := List.getElem?_eq_getElem hi'
    obtain ⟨x', hx', rvx⟩ := rvL.get (i := i) (d := clD lo.rows[i]) (by rw [List.getElem?_map, hr]; rfl)
    rw [hx] at hx'
    cases hx'
    generalize lo.rows[i] = r at hr rvx
    have hmem := List.mem_of_getElem? hr
    obtain ⟨r1, r2, r3, r4, r5, r6, r7, r8⟩ := rowOk_iff.mp (ok.rows.ok r hmem)
    obtain ⟨t, u, rfl, ht, hu⟩ := cl_parts (rvx.same s4)
    have hsl := sizesOk_pos r3
    refine ⟨t, _, rfl, SqT.of ht, rfl, _, _, rfl, _, _, rfl, _, _, rfl, _, _, rfl, _, _, rfl, rfl, ?_⟩
    refine ⟨_, rfl, .inl ⟨rfl, _, SqL.of hW4⟩, ⟨_, rfl⟩, _, rfl, _, rfl, _, rfl, lgS (by omega) (by omega), _, rfl, _, rfl, lgS (by omega) (by omega), _, rfl, _, rfl, lgS (by omega) (by omega), (by show 5 ≤ sizeLine; decide), fun q1 hq1 => ?_⟩
    have s5 := same_new (o := .lst [V.str "class", V.str r.name, V.str (numS r.first), V.str (numS r.least), V.str (numS r.most)]) hq1
    refine ⟨_, rfl, u, rfl, ⟨_, SqT.of (s5 _ _ hu)⟩, fun D hD => ?_⟩
    refine lc_fm (walk_tup (xs := r.sizes.map V.int)) (fun i => some ((r.sizes[i]?.map fun n => V.str (numS n)).getD .non)) hD (by rw [List.length_map, sizeLine_eq]; omega) (fun H6 s6 => SqT.of (s6 _ _ (s5 _ _ hu))) ?_ ?_
    · rintro j v H6 H7 Ky Kn hj s6 ⟨rfl, hv⟩ ky kn
      rw [List.getElem?_map] at hv
      obtain ⟨n, hn, rfl⟩ := Option.map_eq_some_iff.mp hv
      have hn2 := sizes_rng r3 (List.mem_of_getElem? hn)
      refine ⟨rfl, _, rfl, _, rfl, lgS (by omega) (by omega), ky _ _ ?_ (Same.refl _)⟩
      rw [hn]
      rfl
    intro H6 s6 hD6
    rw [fm_some, List.length_map, map_get r.sizes (fun n => V.str (numS n))] at hD6
    have hq6 := s6 _ _ (show upd H5 q1 (.lst [V.str "class", V.str r.name, V.str (numS r.first), V.str (numS r.least), V.str (numS r.most)]) q1 = _ from upd_same)
    refine ⟨q1, D, _, _, rfl, rfl, hq6, hD6, ?_, fun q2 hq2 => ?_⟩
    · rw [List.length_map, sizeLine_eq]
      show 5 + _ ≤ _
      omega
    have e7 : [V.str "class", V.str r.name, V.str (numS r.first), V.str (numS r.least), V.str (numS r.most)] ++ r.sizes.map (fun n => V.str (numS n)) = (wC r).map V.str := by
      unfold wC
      rw [List.map_append, List.map_map]
      rfl
    have s7 := same_new (o := .lst ([V.str "class", V.str r.name, V.str (numS r.first), V.str (numS r.least), V.str (numS r.most)] ++ r.sizes.map (fun n => V.str (numS n)))) hq2
    have hm : wC r ∈ linesOf lo := List.mem_of_getElem? (ln_row hr)
    have hW7 := s7 _ _ (s6 _ _ (s5 _ _ hW4))
    have hN7 := s7 _ _ (s6 _ _ (s5 _ _ hN4))
    refine ⟨_, q2, wC r, rfl, rfl, .inl (SqL.of (by rw [← e7]; exact upd_same)), join_ok ok hm, W, _, _, rfl, rfl, hW7, ?_, ?_⟩
    · have := LV_len lo (1 + i)
      rw [sizeLine_eq]
      omega
    · refine ⟨_, _, _, _, _, _, _, _, _, _, _, rfl, fun b o hb => ?_, ?_, ?_⟩
      · rw [upd_ne (ne_of_none hb hW)]
        exact s7 _ _ (s6 _ _ (s5 _ _ (s4 _ _ hb)))
      · rw [upd_same]
        exact congrArg _ (congrArg _ (LV_step (ln_row hr)))
      · rw [upd_ne nWN.symm]
        exact hN7
  rintro σ H3 ⟨o3, o4, o5, o6, o7, o8, o9, o10, o11, o12, o13, rfl, s3, hW3, hN3⟩
  rw [hcl] at hW3
  refine ⟨_, rfl, d, _, rfl, lg_beside (s3 _ _ h1), B, rfl, ⟨_, SqL.of (s3 _ _ hB)⟩, ?_⟩
  refine for_it (walk_list (xs := bvs)) (fun i σ H4 => ∃ (o3 o4 o5 o6 o7 o8 o9 o10 o11 o12 o13 : Option V), σ = [some (.ref d), some (.ref W), some (.ref N), o3, o4, o5, o6, o7, o8, o9, o10, o11, o12, o13] ∧
      Same H H4 ∧ H4 W = some (.lst (LV lo (1 + lo.rows.length + i))) ∧ H4 N = some (.lst ((lo.rows.map (·.name)).map V.str)))
    ⟨_, _, _, _, _, _, _, _, _, _, _, rfl, s3, hW3, hN3⟩ (fun _ _ _ _ ⟨_, _, _, _, _, _, _, _, _, _, _, _, s4, _⟩ => SqL.of (s4 _ _ hB)) ?_ ?_
  · rintro i x σ H4 H5 hi ⟨o3, o4, o5, o6, o7, o8, o9, o10, o11, o12, o13, rfl, s4, hW4, hN4⟩ ⟨rfl, hx⟩
    have hi' : i < lo.beside.length := by rw [← hbl]; exact hi
    have hr := List.getElem?_eq_getElem hi'
    obtain ⟨x', hx', rvx⟩ := rvB.get (i := i) (d := SL.pairD lo.beside[i]) (by rw [List.getElem?_map, hr]; rfl)
    rw [hx] at hx'
    cases hx'
    generalize lo.beside[i] = r at hr rvx
    have hlt := allPairs_lt (ok.be.subset (List.mem_of_getElem? hr))
    obtain ⟨t, rfl, ht⟩ := pair_parts (rvx.same s4)
    refine ⟨t, _, rfl, SqT.of ht, rfl, _, _, rfl, _, _, rfl, rfl, ?_⟩
    refine ⟨_, rfl, .inl ⟨rfl, _, SqL.of hW4⟩, ⟨_, rfl⟩, _, rfl, _, rfl, N, _, _, _, rfl, rfl, SqL.of hN4, atI_nat (nm_at (by omega)), _, rfl, _, rfl, N, _, _, _, rfl, rfl, SqL.of hN4, atI_nat (nm_at (by omega)), (by show 3 ≤ sizeLine; decide), fun q1 hq1 => ?_⟩
    have s5 := same_new (o := .lst ((wB lo.rows r).map V.str)) hq1
    have hm : wB lo.rows r ∈ linesOf lo := List.mem_of_getElem? (ln_be hr)
    refine ⟨_, q1, wB lo.rows r, rfl, rfl, .inl (SqL.of upd_same), join_ok ok hm, W, _, _, rfl, rfl, s5 _ _ hW4, ?_, ?_⟩
    · have := LV_len lo (1 + lo.rows.length + i)
      rw [sizeLine_eq]
      omega
    · refine ⟨_, _, _, _, _, _, _, _, _, _, _, rfl, fun b o hb => ?_, ?_, ?_⟩
      · rw [upd_ne (ne_of_none hb hW)]
        exact s5 _ _ (s4 _ _ hb)
      · rw [upd_same]
        exact congrArg _ (congrArg _ (LV_step (ln_be hr)))
      · rw [upd_ne nWN.symm]
        exact s5 _ _ hN4
  rintro σ H3 ⟨o3, o4, o5, o6, o7, o8, o9, o10, o11, o12, o13, rfl, s3, hW3, hN3⟩
  rw [hbl] at hW3
  refine ⟨_, rfl, d, _, rfl, lg_far (s3 _ _ h1), F', rfl, ⟨_, SqL.of (s3 _ _ hF)⟩, ?_⟩
  refine for_it (walk_list (xs := fvs)) (fun i σ H4 => ∃ (o3 o4 o5 o6 o7 o8 o9 o10 o11 o12 o13 : Option V), σ = [some (.ref d), some (.ref W), some (.ref N), o3, o4, o5, o6, o7, o8, o9, o10, o11, o12, o13] ∧
      Same H H4 ∧ H4 W = some (.lst (LV lo (1 + lo.rows.length + lo.beside.length + i))) ∧ H4 N = some (.lst ((lo.rows.map (·.name)).map V.str)))
    ⟨_, _, _, _, _, _, _, _, _, _, _, rfl, s3, hW3, hN3⟩ (fun _ _ _ _ ⟨_, _, _, _, _, _, _, _, _, _, _, _, s4, _⟩ => SqL.of (s4 _ _ hF)) ?_ ?_
  · rintro i x σ H4 H5 hi ⟨o3, o4, o5, o6, o7, o8, o9, o10, o11, o12, o13, rfl, s4, hW4, hN4⟩ ⟨rfl, hx⟩
    have hi' : i < lo.far.length := by rw [← hfl]; exact hi
    have hr := List.getElem?_eq_getElem hi'
    obtain ⟨x', hx', rvx⟩ := rvF.get (i := i) (d := SL.farD lo.far[i]) (by rw [List.getElem?_map, hr]; rfl)
    rw [hx] at hx'
    cases hx'
    generalize lo.far[i] = r at hr rvx
    have hmem := List.mem_of_getElem? hr
    have hlt := allPairs_lt (ok.fa.subset (List.mem_map.mpr ⟨r, hmem, rfl⟩))
    have hdi := ok.di r hmem
    obtain ⟨t, t', rfl, ht, ht'⟩ := far_parts (rvx.same s4)
    refine ⟨t, _, rfl, SqT.of ht, rfl, _, _, rfl, _, _, rfl, rfl, ?_⟩
    refine ⟨_, rfl, .inl ⟨rfl, _, SqL.of hW4⟩, ⟨_, rfl⟩, _, rfl, _, rfl, t', _, _, _, rfl, rfl, SqT.of ht', rfl, N, _, _, _, rfl, rfl, SqL.of hN4, atI_nat (nm_at (by omega)), _, rfl, _, rfl, t', _, _, _, rfl, rfl, SqT.of ht', rfl, N, _, _, _, rfl, rfl, SqL.of hN4, atI_nat (nm_at (by omega)), _, rfl, _, rfl, lgS (by omega) (by omega), (by show 4 ≤ sizeLine; decide), fun q1 hq1 => ?_⟩
    have s5 := same_new (o := .lst ((wF lo.rows r).map V.str)) hq1
    have hm : wF lo.rows r ∈ linesOf lo := List.mem_of_getElem? (ln_fa hr)
    refine ⟨_, q1, wF lo.rows r, rfl, rfl, .inl (SqL.of upd_same), join_ok ok hm, W, _, _, rfl, rfl, s5 _ _ hW4, ?_, ?_⟩
    · have := LV_len lo (1 + lo.rows.length + lo.beside.length + i)
      rw [sizeLine_eq]
      omega
    · refine ⟨_, _, _, _, _, _, _, _, _, _, _, rfl, fun b o hb => ?_, ?_, ?_⟩
      · rw [upd_ne (ne_of_none hb hW)]
        exact s5 _ _ (s4 _ _ hb)
      · rw [upd_same]
        exact congrArg _ (congrArg _ (LV_step (ln_fa hr)))
      · rw [upd_ne nWN.symm]
        exact s5 _ _ hN4
  rintro σ H3 ⟨o3, o4, o5, o6, o7, o8, o9, o10, o11, o12, o13, rfl, s3, hW3, hN3⟩
  rw [hfl, ← hct] at hW3
  have e : LV lo (linesOf lo).length = ((linesOf lo).map lineOf).map V.str := by
    unfold LV
    rw [List.take_length, List.map_map]
    rfl
  rw [e] at hW3
  exact ⟨⟨_, rfl⟩, _, rfl, _, W, _, rfl, rfl, .inl (SqL.of hW3), join_all ok, k H3 s3⟩
end
end SK

set_option maxHeartbeats 4000000
/-! x == y, x an instance with its own __eq__ -/
namespace SL
open PySem PySem.Spec PyProof.Rows L2
/-- y is an instance of the same class, or of a built-in one -/
def rOwnEq (C : Addr) (sp : Sp) (E : XK) : R2 := fun x y H Q => ∃ a dx fs, x = .ref a ∧ H a = some (.ins C dx fs) ∧ ((∃ b dy gs, y = .ref b ∧ H b = some (.ins C dy gs)) ∨ ∃ n, Kn H y n) ∧ sp [x, y] H Q E
theorem notFirst_kn {K : PySem.W.Frag} {C : Addr} {H : Hp} {v : V} {n : String} (k : Kn H v n) : PySem.W.notFirst K C (.type n) = true := by
  unfold PySem.W.notFirst
  cases k <;> rfl
section
variable {X : Cx} {CX : CXT} {C g : Addr} {n : Nat} {sp : Sp} {E : XK}
theorem op_ownC {op : CmpOp} (hop : ∀ a b, compareOp op a b = richCompare op a b) (hs : PySem.W.findIn X.K (.ref C) (cmpInfo op).2.1 = some (some (.ref g))) (hf : PySem.W.isFn X.K (.ref g) = true) (F : FnR X.prog X.w X.K X.mg X.base CX n g sp)
    (hr : Room n X.A) (hx : Passes CX X E) : OpR X (compareOp op) (rOwnEq C sp E) := by
  intro pins s σ H x y v u Q I rx ry h
  obtain ⟨a, dx, fs, rfl, ha, hy, q⟩ := h
  cases rx
  obtain ⟨mA, J, _⟩ := ins_get I.hok ha
  obtain ⟨od, J, _⟩ := J.look
  obtain ⟨m, hF⟩ := I.fr
  obtain ⟨tb, ht, hn⟩ : ∃ tb, PySem.W.Looks (model X.prog X.w) s.heap (typeOf u) tb ∧ PySem.W.notFirst X.K C tb = true := by
    rcases hy with ⟨b, dy, gs, rfl, hb⟩ | ⟨nm, kn⟩
    · cases ry
      obtain ⟨mB, J', _⟩ := ins_get I.hok hb
      obtain ⟨od', J', _⟩ := J'.look
      exact ⟨.ref C, J'.type, by simp [PySem.W.notFirst]⟩
    · obtain ⟨P, kx, hp, _⟩ := kit_of I ry (kn.tyx (K := X.K))
      exact ⟨.type nm, kx.ty _ _ I.kIn hp, notFirst_kn kn⟩
  rw [hop]
  refine PySem.W.cmp_K (op := op) (tb := tb) hr.units0 hF I.ok.mod.kin J ht hn hs hf ?_
  refine wpAny_mono (wpAny_call (run_fnR (us := [.ref a, u]) (vs := [.ref a, y]) F hr hx I (.cons rfl (.cons ry .nil)) q)) (fun w s' z => ?_) fun _ _ x => x
  obtain ⟨z', H', I', rz, qz⟩ := z
  exact SlX.cmpback rz ⟨z', H', I', rz, qz⟩
end
end SL
set_option maxHeartbeats 4000000
namespace SL
open PySem PySem.Spec PyProof.Rows L2 TL
theorem LoreOk.kind {lo : Lore} (h : LoreOk lo) : ∀ ws ∈ SL.linesOf lo, ∀ w ∈ ws, isName w = true ∨ allFig w = true := by
  intro ws hws w hw
  unfold SL.linesOf at hws
  have hz1 := h.z1
  have hz5 := h.z5
  simp only [List.mem_cons, List.mem_append, List.mem_map] at hws
  rcases hws with rfl | ⟨r, hr, rfl⟩ | ⟨p, hp, rfl⟩ | ⟨p, hp, rfl⟩
  · simp only [wZ, List.mem_cons, List.not_mem_nil, or_false] at hw
    rcases hw with rfl | rfl
    · exact .inl (by decide +kernel)
    · exact .inr (num_ok (by omega) (by omega)).2.1
  · obtain ⟨r1, r2, r3, r4, r5, r6, r7, r8⟩ := rowOk_iff.mp (h.rows.ok r hr)
    have := sizesOk_pos r3
    simp only [wC, List.cons_append, List.nil_append, List.mem_cons, List.mem_map] at hw
    rcases hw with rfl | rfl | rfl | rfl | rfl | ⟨n, hn, rfl⟩
    · exact .inl (by decide +kernel)
    · exact .inl r1
    · exact .inr (num_ok (by omega) (by omega)).2.1
    · exact .inr (num_ok (by omega) (by omega)).2.1
    · exact .inr (num_ok (by omega) (by omega)).2.1
    · have := sizes_rng r3 hn
      exact .inr (num_ok (by omega) (by omega)).2.1
  · have hm := allPairs_lt (h.be.subset hp)
    simp only [wB, List.mem_cons, List.not_mem_nil, or_false] at hw
    rcases hw with rfl | rfl | rfl
    · exact .inl (by decide +kernel)
    · exact .inl (h.nm (by omega))
    · exact .inl (h.nm (by omega))
  · have hm := allPairs_lt (h.fa.subset (List.mem_map.mpr ⟨p, hp, rfl⟩))
    have hd := h.di p hp
    simp only [wF, List.mem_cons, List.not_mem_nil, or_false] at hw
    rcases hw with rfl | rfl | rfl | rfl
    · exact .inl (by decide +kernel)
    · exact .inl (h.nm (by omega))
    · exact .inl (h.nm (by omega))
    · exact .inr (num_ok (by omega) (by omega)).2.1
theorem LoreOk.signs {lo : Lore} (h : LoreOk lo) : ∀ c ∈ (textOf lo).cps.toList, c < 16 ^ 8 := by
  intro c hc
  have hc : c ∈ tl (Txt.join "\n" ((SL.linesOf lo).map lineOf)) := hc
  have lim : ∀ c : Nat, c ≤ 200 → c < 16 ^ 8 := fun c h => Nat.lt_of_le_of_lt h (by decide)
  rw [join_eq, tl_join, tl_nl] at hc
  rcases mem_joinL hc with h1 | ⟨p, hp, h1⟩
  · simp at h1
    exact lim c (by omega)
  · rw [List.map_map] at hp
    obtain ⟨ws, hws, rfl⟩ := List.mem_map.mp hp
    have h1 : c ∈ tl (Txt.join " " ws) := h1
    rw [join_eq, tl_join, tl_sp] at h1
    rcases mem_joinL h1 with h2 | ⟨q, hq, h2⟩
    · simp at h2
      exact lim c (by omega)
    · obtain ⟨w, hw, rfl⟩ := List.mem_map.mp hq
      rcases h.kind ws hws w hw with h3 | h3
      · unfold isName at h3
        simp only [Bool.and_eq_true] at h3
        have := let_ok (of_decide_eq_true (List.all_eq_true.mp h3.2 c h2))
        exact lim c (by omega)
      · have := fig_ok (of_decide_eq_true (List.all_eq_true.mp h3 c h2))
        exact lim c (by omega)
theorem LoreOk.len {lo : Lore} (h : LoreOk lo) : (textOf lo).length ≤ 4000 := by
  have h1 := h.count
  refine Nat.le_trans (join_len (y := "\n") (B := 130) (ws := (SL.linesOf lo).map lineOf) fun w hw => ?_) ?_
  · obtain ⟨ws, hws, rfl⟩ := List.mem_map.mp hw
    exact h.lineLen ws hws
  · rw [nl_len, List.length_map]
    omega
theorem SAt.obj {CS CW a : Addr} {H : Hp} {x : Str} {st : RSt} (h : SAt CS CW H (.ref a) x st) : ∃ dx fs, H a = some (.ins CS dx fs) := by
  obtain ⟨⟨s0, dx, a1, a2, a3, a4, vs, kvs, ws, e, h1, _⟩, _⟩ := h
  cases e
  exact ⟨_, _, h1⟩
end SL
namespace SK
open PySem PySem.Spec PyProof.Rows L2 SL
section
variable {w : World} {K : PySem.W.Frag} {mg : Str → Option Value} {base : Heap}
theorem tx_ok {lo : Lore} (ok : LoreOk lo) : txOk (textOf lo) := by
  have h1 := ok.len
  have h2 := ok.count
  refine ⟨by omega, ?_, fun z hz => ?_⟩
  · rw [ok.split, List.length_map]
    omega
  · rw [ok.split] at hz
    obtain ⟨ws, hws, rfl⟩ := List.mem_map.mp hz
    exact Nat.le_trans (ok.lineLen ws hws) (by decide)
abbrev stOf (so : Str) (lo : Lore) : RSt := ⟨so, lo.zooms - 1, lo.rows, lo.beside, lo.far⟩
/-- Style(text of a lore) -/
theorem style_q {lo : Lore} {H : Hp} {Q : VK} {E : XK} {a dx : Addr} (ok : LoreOk lo) (ha : H a = none) (hdx : H dx = none) (hne : dx ≠ a) (k : ∀ (H' : Hp) (so : Str), Same H H' → StAt K H' (.ref a) (textOf lo) (stOf so lo) → Q .non H') :
    spStyleInit K (.ref a :: ([.str (textOf lo)] ++ [])) (upd (upd H dx (.own a)) a (.ins (He.ga K "Style") dx [])) Q E := by
  refine ⟨_, _, rfl, a, dx, rfl, upd_same, ⟨_, .str _⟩, fun e => (by cases e), fun x e => ?_⟩
  cases e
  obtain ⟨so, hrd⟩ := ok.reads
  refine ⟨tx_ok ok, fun n e => ?_, fun st e H' os S => ?_⟩
  · rw [hrd] at e
    cases e
  · rw [hrd] at e
    cases e
    refine k H' so (fun b o hb => ?_) S
    refine os b o (ne_of_none hb ha) ?_
    rw [upd_ne (ne_of_none hb ha), upd_ne (ne_of_none hb hdx)]
    exact hb
end
end SK

set_option maxHeartbeats 4000000
/-! try .. except C as n: the error is kept under another name -/
namespace SL
open PySem PySem.Spec PyProof.Rows L2
/-- at e: an error of the class at C with the dict at d, as it was caught -/
def exk (e C d : Addr) : HO := .ext fun h => ∃ (oe : Obj) (vs : Array Value), h.get? e = some oe ∧ oe.cls = .ref C ∧ oe.dict = some d ∧ oe.data = .fields vs
section
variable {X : Cx} {pins : List (Addr × Obj)} {σ : L2.St} {H : Hp} {s : Shared}
theorem exk_new {P : Program} {w : World} {h : Heap} {H : Hp} {e C d : Addr} {oe : Obj} {vs : Array Value} (ho : h.get? e = some oe) (h1 : oe.cls = .ref C) (h2 : oe.dict = some d) (h3 : oe.data = .fields vs) : ObjOk P w H h e (exk e C d) := by
  refine ⟨⟨oe, vs, ho, h1, h2, h3⟩, ⟨oe, ho⟩, fun g1 g2 z k => ?_⟩
  obtain ⟨oe', vs', z1, z2⟩ := z
  exact ⟨oe', vs', k _ z1, z2⟩
/-- an object that is held in place is from now on tracked -/
theorem adopt {a : Addr} {oe : Obj} {o : HO} (I : Inv X ((a, oe) :: pins) σ H s) (h0 : ∀ u, X.s_0.heap.get? a = some u → a ∈ X.ex) (hp : ∀ p ∈ X.pn ++ pins, p.1 ≠ a) (new : ObjOk X.prog X.w (upd H a o) s.heap a o) : Inv X pins σ (upd H a o) s := by
  obtain ⟨pa, pn, pl, pf, pc⟩ := I.pin (a, oe) (List.mem_append_right _ List.mem_cons_self)
  have pn : H a = none := pn
  have ne : ∀ {b : Addr} {u : HO}, H b = some u → b ≠ a := fun {b u} e z => by rw [z, pn] at e; cases e
  refine ⟨I.ok, I.os, I.bare, ⟨I.base.keep, I.base.slot, fun b u e1 e2 e3 => ?_, I.base.there, fun b xs e => ?_, fun b u v e => ?_, fun b ps e => ?_⟩, I.loc, I.cell, ?_, fun x c e => ?_, fun p hm => ?_, I.hok.laidN (fun _ _ z => z) pn new, I.len⟩
  · by_cases hb : b = a
    · subst hb
      exact absurd (h0 u e1) e3
    · rw [upd_ne hb]
      exact I.base.free b u e1 e2 e3
  · have z := I.base.tups b xs e
    rw [upd_ne (ne z)]
    exact z
  · have z := I.base.frzs b u v e
    rw [upd_ne (ne z)]
    exact z
  · obtain ⟨more, z⟩ := I.base.tbls b ps e
    exact ⟨more, by rw [upd_ne (ne z)]; exact z⟩
  · rw [upd_ne (Ne.symm pl)]
    exact I.free
  · rw [upd_ne]
    · exact I.freeC x c e
    · intro z
      obtain ⟨v, oc, h1, h2⟩ := I.cell x c e
      rw [z] at h1
      have pa : s.heap.get? a = some oe := pa
      rw [pa] at h1
      cases h1
      exact pc v (by simpa using h2)
  · obtain ⟨q1, q2, q3, q4, q5⟩ := I.pin p (by
      rcases List.mem_append.mp hm with z | z
      · exact List.mem_append_left _ z
      · exact List.mem_append_right _ (List.mem_cons_of_mem _ z))
    exact ⟨q1, by rw [upd_ne (hp p hm)]; exact q2, q3, q4, q5⟩
end
end SL
namespace SL
open PySem PySem.Spec PyProof.Rows L2
/-- what the clause wishes: the error that the body raises is held by the name in slot j behind the clause -/
def wKeep (K : PySem.W.Frag) (c : Value) (i : Nat) (ts : TS) (Wout : WX) (D : Ends) : WX := fun cls d σ H =>
  ∃ b, PySem.W.exmOne K cls c = some b ∧ (b = true → ∃ C dd, cls = .ref C ∧ d = some dd ∧ ∀ a, H a = none →
    ts { nx := fun σ' H' => D.nx (σ'.set i none) (upd H' a (exk a C dd)), rt := fun _ _ => False, bk := fun _ _ => False, ct := fun _ _ => False } (σ.set i (some (.ref a))) H) ∧ (b = false → Wout cls d σ H)
section
variable {X : Cx} {x n : Str} {c : Value} {i : Nat} {body suite : List Stmt} {st0 : Stmt} {np pos pos' : Pos} {tb : WX → TS} {ts : TS} {Wout : WX}
theorem ps_try_keep (hst : X.stack = X.env :: X.outer) (hfr : X.env.frame = some X.env.locals) (nd : X.N.Nodup) (hi : X.N[i]? = some n) (kn : X.env.kindOf n = some .local) (hc : Names X x c) (tk : Takes X Wout)
    (hbd : ∀ (W : WX) (pn : List (Addr × Obj)) (xe : Value → Shared → Prop), Takes (X.tr pn xe) W → PassesOwn (model X.prog X.w) X.A X.env xe → PSs (X.tr pn xe) body (tb W))
    (hsu : ∀ (a : Addr) (oe : Obj) (pn : List (Addr × Obj)), (∃ vs, oe.data = .fields vs) → PSs (X.suite a ((a, oe) :: pn)) (st0 :: suite) ts) :
    PS X (.Try body [.ExceptHandler (some (.Name x np)) (some n) (st0 :: suite) pos'] [] [] pos) (fun D σ H => tb (wKeep X.K c i ts Wout D) D σ H) := by
  constructor
  intro pins s σ H D I h
  have ok := I.ok
  have hA : X.A.frames = some (X.env :: X.outer) := by rw [ok.frames, hst]
  refine wpAny_Try_except (wpAny_mono ((hbd (wKeep X.K c i ts Wout D) (X.pn ++ pins) (fun e s1 => wpAny (model X.prog X.w) X.A (noteFrame e X.env) (fun _ s2 => wpAny (model X.prog X.w) X.A (setFlight e none) (fun _ s3 => wpAny (model X.prog X.w) X.A (handleBy e X.env [.ExceptHandler (some (.Name x np)) (some n) (st0 :: suite) pos']) (SP X pins D) X.xe s3) X.xe s2) X.xe s1) (fun u s' z => ?ct) PassesOwn.looking).run [] s σ H D (I.toTry _) h) (fun f s1 z => ?en) (fun _ _ z => z))
  case en =>
    cases f with
    | next => obtain ⟨σ1, H1, J1, q⟩ := z; exact wpAny_execs_nil ⟨σ1, H1, J1.ofTry ok, q⟩
    | brk => obtain ⟨σ1, H1, J1, q⟩ := z; exact ⟨σ1, H1, J1.ofTry ok, q⟩
    | cont => obtain ⟨σ1, H1, J1, q⟩ := z; exact ⟨σ1, H1, J1.ofTry ok, q⟩
    | ret u => obtain ⟨v, σ1, H1, J1, r, q⟩ := z; exact ⟨v, σ1, H1, J1.ofTry ok, r, q⟩
  case ct =>
    obtain ⟨a, B, sI, pins', σ1, H1, cls, d, rfl, J1, nb, up, sky, na, os, ag, b, eb, yes, no⟩ := z
    have J : Inv X pins σ1 H1 sI := J1.ofTry ok
    have ba : B.get? a = none := by rcases sky with z | z | z <;> exact z.2.1
    have sky1 : Sky B (X.env :: X.outer) a (Zc cls d) X.env.locals s'.heap := hst ▸ sky
    show wpAny (model X.prog X.w) X.A (noteFrame (.ref a) X.env) _ _ _
    refine Sky.land Zc.steady hA hfr sky1 fun h3 fl3 up3 => ?_
    have J3 : Inv X pins σ1 H1 { s' with heap := h3 } := J.landed nb fl3.1 (up.trans up3) os ag
    obtain ⟨oe3, vs3, he3, hz3, hd3⟩ := fl3.there
    have nfr : a ∉ frs (X.env :: X.outer) := fun hm => by
      obtain ⟨_, o', e', hnf⟩ := fl3.2.2.1.mem hm
      rw [he3] at e'
      cases e'
      exact hnf _ hd3
    have nL : a ≠ X.env.locals := fun z => nfr (List.mem_filterMap.mpr ⟨X.env, List.mem_cons_self, by rw [hfr, z]⟩)
    have nF : a ∉ X.fs := fun hm => by
      obtain ⟨e, he, q⟩ := List.mem_filterMap.mp hm
      exact nfr (List.mem_filterMap.mpr ⟨e, List.mem_cons_of_mem _ he, q⟩)
    have aI : sI.heap.get? a = none := by
      cases e : sI.heap.get? a with
      | none => rfl
      | some o =>
        have z := nb a o e (by rw [hst]; exact nfr)
        rw [ba] at z
        cases z
    have h0 : ∀ u, X.s_0.heap.get? a = some u → a ∈ X.ex := fun u e => by
      by_cases hx : a ∈ X.ex
      · exact hx
      · obtain ⟨o', e'⟩ := J.base.there a u e hx
        rw [aI] at e'
        cases e'
    have hpn : ∀ p ∈ X.pn ++ pins, p.1 ≠ a := fun p hp z => by
      have := (J.pin p hp).1
      rw [z, aI] at this
      cases this
    have S3 := J3.suite he3 hd3 na nL nF
    refine wpAny_handleBy_cons (codeAny_handlers_test ?_) (by intro q; cases q)
    have LT : PySem.W.Looks (model X.prog X.w) h3 (typeOf (.ref a)) cls := fun _ _ _ _ k q => wpAny_typeOf_ref (k _ _ he3) (by rw [hz3.1]; exact q)
    have LM := PySem.W.exm_one (M := model X.prog X.w) (J3.kIn) LT eb
    have test : ∀ {Q : Value → Shared → Prop} {E : Value → Shared → Prop}, Q c { s' with heap := h3 } → wpAny (model X.prog X.w) (X.A.mark (some (.ref a))) (eval (.Name x np) X.env) Q E { s' with heap := h3 } := fun {Q E} q => by
      obtain ⟨g1, g2, g3 | ⟨g3, g4, g5⟩⟩ := hc
      · exact ld_glob (X := Cx.suite X a ((a, oe3) :: (X.pn ++ pins))) S3 g1 g3 q g2
      · exact ld_blt (X := Cx.suite X a ((a, oe3) :: (X.pn ++ pins))) S3 g1 g3 g4 q g5 g2
    refine test (LM.here ?_)
    cases b with
    | true =>
      obtain ⟨C, dd, rfl, rfl, ys⟩ := yes rfl
      refine codeAny_handlers_suite_as (HandSPX.lands_againZ fl3 fun h4 fl4 up4 => ?_)
      have J4 : Inv X pins σ1 H1 { s' with heap := h4 } := J.landed nb fl4.1 ((up.trans up3).trans up4) os ag
      obtain ⟨oe4, vs4, he4, hz4, hd4⟩ := fl4.there
      have S4 := J4.suite he4 hd4 na nL nF
      refine store_ok (X := Cx.suite X a ((a, oe4) :: (X.pn ++ pins))) (v := V.ref a) S4 nd hi (.inl kn) rfl (fun s5 S5 => ?_) (.inr kn)
      refine wpAny_mono ((hsu a oe4 (X.pn ++ pins) ⟨_, hd4⟩).run [] s5 _ H1 _ S5 (ys a na)) (fun f s6 q => ?_) (fun _ _ z => z.elim)
      cases f with
      | next =>
        obtain ⟨σ6, H6, S6, q6⟩ := q
        have J6 : Inv X ((a, oe4) :: pins) σ6 H6 s6 := (S6.unsuite ok).pins_of fun p hp => by
          rcases List.mem_cons.mp hp with z | z
          · rw [z]
            exact S6.pin (a, oe4) (List.mem_append_left _ List.mem_cons_self)
          · exact S6.pin p (List.mem_append_left _ (List.mem_cons_of_mem _ (List.mem_append_right _ z)))
        refine gone_ok J6 nd hi kn fun s7 J7 => ?_
        have p7 := J7.pin (a, oe4) (List.mem_append_right _ List.mem_cons_self)
        exact ⟨_, _, adopt J7 h0 hpn (exk_new p7.1 hz4.1 hz4.2 hd4), q6⟩
      | brk => obtain ⟨_, _, _, q6⟩ := q; exact q6.elim
      | cont => obtain ⟨_, _, _, q6⟩ := q; exact q6.elim
      | ret u => obtain ⟨_, _, _, _, _, q6⟩ := q; exact q6.elim
    | false =>
      show wpAny _ X.A (handleBy (.ref a) X.env []) _ _ _
      refine wpAny_handleBy_nil ?_
      obtain ⟨_, _, _, oe, vs, T, oT, ts', he, hz, hd, h1, hr⟩ := id fl3
      unfold PySem.passOn
      refine wpAny_bind (wpAny_field he hd h1 ?_)
      rw [if_neg (by simp : ¬ ((Value.ref T == Value.none) = true))]
      have fin : wpAny (model X.prog X.w) X.A (setFlight (.ref a) X.env.frame) (fun _ s4 => wpAny (model X.prog X.w) X.A (throw (.ref a) : Sem Flow) (SP X pins D) X.xe s4) X.xe { s' with heap := h3 } := by
        rw [hfr]
        refine HandSPX.setFlight_upZ fl3 fun h4 hh4 up4 => wpAny_throw (tk _ _ ⟨a, B, sI, pins, σ1, H1, cls, d, rfl, J, nb, (up.trans up3).trans up4, .inr (.inr (by rw [hst]; exact hh4)), na, os, ag, no rfl⟩)
      first
        | exact wpAny_bind (wpAny_pure (wpAny_bind fin))
        | exact wpAny_bind fin
end
end SL
set_option maxHeartbeats 4000000
/-! a caught error asked: its value, isinstance -/
namespace SL
open PySem PySem.Spec PyProof.Rows L2
/-- a caught error of the class at C with a value -/
def KeptAt (H : Hp) (a C : Addr) (v : V) : Prop := ∃ d, H a = some (exk a C d) ∧ H d = some (.xd [("value", v)])
theorem KeptAt.same {H H' : Hp} (e : Same H H') {a C : Addr} {v : V} (h : KeptAt H a C v) : KeptAt H' a C v := by
  obtain ⟨d, h1, h2⟩ := h
  exact ⟨d, e _ _ h1, e _ _ h2⟩
section
variable {X : Cx} {D fI : Addr} {e : Expr} {te : TE} {pos : Pos} {pins : List (Addr × Obj)} {σ : L2.St} {H : Hp} {s : Shared}
theorem kept_look (I : Inv X pins σ H s) {a C : Addr} {v : V} (h : KeptAt H a C v) : ∃ (oe od : Obj) (u : Value), PySem.W.InstAt s.heap a oe C (some od) ∧ RelV v u ∧ PySem.W.lookIn "value" od = some (some u) := by
  obtain ⟨d, ha, hd⟩ := h
  obtain ⟨⟨oe, vs, ho, h1, h2, h3⟩, _⟩ := I.hok a _ ha
  obtain ⟨mA, hns, hr⟩ := I.hok d _ hd
  obtain ⟨od, hod, hl⟩ := lookIn_ns hns
  have rr := hr "value"
  rw [show List.lookup ("value" : Str) [(("value" : Str), v)] = some v by simp [List.lookup]] at rr
  obtain ⟨u, hu, ru⟩ := RelO.some_of rr
  refine ⟨oe, od, u, ⟨ho, h1, ?_, ?_⟩, ru, by rw [hl, hu]⟩
  · unfold PySem.W.notCls
    rw [h3]
  · rw [h2]
    exact hod
def tKeptV (K : PySem.W.Frag) (D fI : Addr) (te : TE) : TE := fun σ H Q => te σ H fun x H1 => ∃ (a C : Addr) (v : V), x = .ref a ∧ ErrC K D fI C ∧ KeptAt H1 a C v ∧ Q v H1
theorem pe_keptV (he : PE X e te) (hb : attributeBase e "value" X.env (eval e X.env) = eval e X.env := by rfl) : PE X (.Attribute e "value" pos) (tKeptV X.K D fI te) := by
  refine ⟨fun pins s σ H Q I h => attr_of hb (thn (he.run pins s σ H _ I h) fun u s1 z => ?_)⟩
  obtain ⟨y, H1, I1, rx, a, C, v, rfl, T, k, q⟩ := z
  cases rx
  obtain ⟨oe, od, u, J, ru, hl⟩ := kept_look I1 k
  exact HandSPX.exc_get I1.kIn J T.ga T.gg T.exC (PySem.W.findObj_own T.hdC T.noV rfl hl) (handed_of ru) ⟨v, H1, I1.tok _, ru, q⟩
/-- isinstance(caught, c) -/
def rIsKept (K : PySem.W.Frag) (D fI : Addr) : List V → Hp → VK → Prop := fun xs H Q => ∃ (a C : Addr) (c : V) (cu : Value) (v : V) (b : Bool), xs = [.ref a, c] ∧ ErrC K D fI C ∧ KeptAt H a C v ∧ ClsV c cu ∧ PySem.W.kitOne K (.ref C) cu = some b ∧ Q (.bl b) H
theorem call_isKept : CallR X (.builtin "isinstance") (rIsKept X.K D fI) := by
  intro pins s σ H xs us Q I r h
  obtain ⟨a, C, c, cu, v, b, rfl, T, k, kc, e, q⟩ := h
  obtain ⟨u1, u2, rfl, r1, r2⟩ := vals2 r
  cases r1
  cases kc.eq r2
  obtain ⟨oe, od, u, J, _, _⟩ := kept_look I k
  have hcl : (PySem.W.clsIn X.K C).isSome = true := by
    obtain ⟨cd, hc, _⟩ := PySem.W.any_some T.hdC
    rw [hc]
    rfl
  exact PySem.W.kia_one (PySem.W.kitx_exc hcl T.ga T.gg T.exC T.cl T.sp T.tk T.ob) I.kIn J e (fun z => nomatch z) fun tk => ⟨.bl b, H, I.tok tk, rfl, q⟩
end
end SL
set_option maxHeartbeats 4000000
namespace SL
open PySem PySem.Spec PyProof.Rows L2
def numW (z : Str) : Int := (wholeIn z).getD (-1)
def spNumL : Sp := sp1 fun v H Q _ => ∃ z, v = .str z ∧ z.length ≤ 640 ∧ ∀ H', Same H H' → Q (.int (numW z)) H'
def tupOf : Option (Nat × Nat) → List V
  | none => []
  | some p => [.int p.1, .int p.2]
def tupD : Option (Nat × Nat) → PyData
  | none => .tuple []
  | some p => pairD p
theorem tupD_rv {H : Hp} {t : Addr} {o : Option (Nat × Nat)} (h : H t = some (.tup (tupOf o))) {K : PySem.W.Frag} : Dp K H (.ref t) (tupD o) := by
  cases o with
  | none => exact .tup (SqT.of h) .nil
  | some p => exact .tup (SqT.of h) (.cons (.int _) (.cons (.int _) .nil))
theorem tupD_shaped (o : Option (Nat × Nat)) : SeqAt.shaped (tupD o) = true := by
  cases o with
  | none => decide +kernel
  | some p => exact (pairD_shp p).shaped (by decide)
theorem tupD_nil (o : Option (Nat × Nat)) : PyData.eqv (tupD o) (.tuple []) = o.isNone := by
  cases o with
  | none => decide +kernel
  | some p =>
    show PyData.eqv (pairD p) (.tuple []) = false
    simp [pairD, PyData.eqv, PyData.eqvAll]
def spTwoL : Sp := sp2 fun a b H Q _ => ∃ (W R : Addr) (x y : Str) (ns : List Str), a = .ref W ∧ b = .ref R ∧ H W = some (.lst ([x, y].map V.str)) ∧ H R = some (.lst (ns.map V.str)) ∧ ns.length ≤ 1000 ∧
  ∀ H' t, Same H H' → H' t = some (.tup (tupOf (pairOf ns x y))) → Q (.ref t) H'
/-- the pair that words tell behind the first one -/
def pairIn (ns ws : List Str) : Option (Nat × Nat) := match ws with
  | _ :: x :: y :: _ => pairOf ns x y
  | _ => none
def aheadOk (o : Option (Nat × Nat)) (p : Nat × Nat) : Bool := match o with
  | none => true
  | some q => !pairLe p q
def isPair (ns ws : List Str) (o : Option (Nat × Nat)) : Bool := match pairIn ns ws with
  | none => false
  | some p => aheadOk o p
def spIsPairL : Sp := sp3 fun a b c H Q _ => ∃ (W R A : Addr) (ws ns : List Str) (o : Option (Nat × Nat)), a = .ref W ∧ b = .ref R ∧ c = .ref A ∧ H W = some (.lst (ws.map V.str)) ∧ H R = some (.lst (ns.map V.str)) ∧ H A = some (.tup (tupOf o)) ∧ ns.length ≤ 1000 ∧ ws.length ≤ 1000 ∧
  ∀ H', Same H H' → Q (.bl (isPair ns ws o)) H'
theorem lexLt_pair (q p : Nat × Nat) : HT.lexLt [(q.1 : Int), q.2] [(p.1 : Int), p.2] = !pairLe p q := by
  unfold pairLe
  simp only [HT.lexLt]
  by_cases h1 : q.1 = p.1
  · rw [if_pos (by omega), if_pos h1.symm]
    by_cases h2 : q.2 = p.2
    · rw [if_pos (by omega), decide_eq_true (by omega)]
      rfl
    · rw [if_neg (by omega), ← decide_not]
      exact decide_eq_decide.mpr (by omega)
  · rw [if_neg (by omega), if_neg (Ne.symm h1), ← decide_not]
    exact decide_eq_decide.mpr (by omega)
end SL
namespace SK
open PySem PySem.Spec PyProof.Rows L2 SL
section
variable {w : World} {K : PySem.W.Frag} {mg : Str → Option Value} {base : Heap}
abbrev n_law_number : List Str := ["_law_word", "_law_sign"]
theorem sc_law_number : FnScope n_law_number ["_law_word"] (defScope d_law_number) := ⟨rfl, rfl, rfl, by decide +kernel, rfl, by decide +kernel, by decide +kernel⟩
theorem ok_law_number (T : Top w K mg) : Has prg w K mg base CX0 1 (He.ga K "_law_number") ["_law_word"] spNumL := by
  obtain ⟨fd, F⟩ := T.F_law_number
  refine ⟨fd, F.ok (k := 0) sc_law_number (fun _ _ _ _ h => sp1_len h) (fun cdv A outer s H vs Q E hr h => ?_), F.bindsN (fun _ _ _ _ _ _ us hl => match us, hl with | [_], _ => rfl), F.kp⟩
  obtain ⟨v0, rfl, h⟩ := h
  refine ⟨_, PSs.nox (pss_cons (ps_if (PW.pt (pw_or (pt_cmpR op_eq (pv 0) pe_str (nomark _)) (pw_or1 (pt_not (pt_val (pe_callB (cr_all rfl) (by rfl) T.b_all (by decide +kernel) (pa_cons (pe_lc (own := [("_law_sign", 1)]) (g := gName 1) (by rfl) sc_law_number.nd (pi_str (pv 0)) (blkOk_by (N := n_law_number) (sc := defScope d_law_number) (own := [("_law_sign", 1)]) (by decide +kernel)) (fun _ _ _ _ _ => (pg_name (i := 1) sc_law_number.nd rfl (Or.inl rfl) (.inr rfl))) (fun _ _ _ _ _ => pts_nil) (fun _ _ _ _ _ => (pe_cmpR op_in_sign (pv 1) pe_str (by rfl)))) pa_nil))))))) (pss_one (ps_ret (pe_un un_neg pe_int))) pss_nil)
    (pss_one (ps_ret (pe_ifExp (PW.pt (pw_or (pt_cmpR op_eq (pv 0) pe_str (nomark _)) (pw_or1 (pt_cmpR op_ne (pe_ix ix_str (pv 0) pe_int (fun _ _ => rfl)) pe_str (nomark _))))) (pe_callTy call_int_str (by rfl) T.b_int boot_int (pa_cons (pv 0) pa_nil)) (pe_un un_neg pe_int))))), ?_⟩
  obtain ⟨z, rfl, hz, q⟩ := h
  have hz2 : z.length ≤ sizeLine := Nat.le_trans hz (by decide)
  have qn : wholeIn z = none → ∀ H', Same H H' → Q (.int (-1)) H' := fun e H' s' => by
    have := q H' s'
    unfold numW at this
    rw [e] at this
    exact this
  have qs : ∀ n, wholeIn z = some n → ∀ H', Same H H' → Q (.int n) H' := fun n e H' s' => by
    have := q H' s'
    unfold numW at this
    rw [e] at this
    exact this
  refine ⟨_, rfl, rfl, _, rfl, ?_⟩
  by_cases h1 : z = ""
  · subst h1
    exact ⟨_, rfl, qn (by decide +kernel) _ (Same.refl _)⟩
  · rw [decide_eq_false fun e => h1 (V.str.inj e)]
    refine ⟨_, rfl, z, rfl, fun D hD => ?_⟩
    refine lc_sgn (p := fun c => decide (c ∈ figL)) hD hz2 (fun c H1 Ky Kn s1 k => ⟨rfl, ⟨_, rfl, _, _, rfl, rfl, k⟩⟩) (fun H1 s1 hl => ?_)
    refine ⟨D, _, rfl, SqL.of hl, _, rfl, ?_⟩
    rw [all_map]
    have ef : (z.cps.toList.all fun c => decide (c ∈ figL)) = allFig z := rfl
    rw [ef]
    cases hf : allFig z with
    | false =>
      refine ⟨_, rfl, qn ?_ _ s1⟩
      unfold wholeIn
      rw [if_pos (.inr hf)]
    | true =>
      have hne : z.cps.toList ≠ [] := fun e => h1 (Str.ext' (Array.toList_inj.mp e))
      obtain ⟨c, r, hc⟩ : ∃ c r, z.cps.toList = c :: r := List.exists_cons_of_ne_nil hne
      have hdig : NumText.AllDigits z.cps.toList := fun c hc => fig_ok (of_decide_eq_true (List.all_eq_true.mp hf c hc))
      have hint := intText_digits hdig hne (Nat.le_trans hz (by decide))
      have hcond : ¬ (z = "" ∨ allFig z = false) := fun e => e.elim h1 (fun e => by rw [hf] at e; cases e)
      refine ⟨_, rfl, rfl, _, rfl, ?_⟩
      by_cases h2 : z = "0"
      · rw [decide_eq_true (congrArg V.str h2)]
        refine ⟨_, rfl, z, _, rfl, hint, hz, qs _ ?_ _ s1⟩
        unfold wholeIn
        rw [if_neg hcond, if_pos (.inl h2), hint]
      · rw [decide_eq_false fun e => h2 (V.str.inj e)]
        have hat : atI z.cps.toList 0 = some c := atI_nat (j := 0) (by rw [hc]; rfl)
        refine ⟨_, rfl, z, _, c, rfl, rfl, hz2, hat, rfl, _, rfl, ?_⟩
        by_cases h3 : c = 48
        · have e3 : V.str ⟨#[c]⟩ = V.str "0" := by
            rw [h3]
            exact congrArg V.str (by decide +kernel)
          rw [decide_eq_true e3]
          refine ⟨_, rfl, qn ?_ _ s1⟩
          unfold wholeIn
          rw [if_neg hcond, if_neg (fun e => e.elim h2 (fun e => e (by rw [hc, h3]; rfl)))]
        · have e3 : V.str ⟨#[c]⟩ ≠ V.str "0" := fun e => h3 (by
            have e4 : (⟨#[c]⟩ : Str) = ⟨#[48]⟩ := (V.str.inj e).trans (by decide +kernel)
            have e5 := congrArg (fun z : Str => z.cps.toList) e4
            exact (List.cons.inj e5).1)
          rw [decide_eq_false e3]
          refine ⟨_, rfl, z, _, rfl, hint, hz, qs _ ?_ _ s1⟩
          unfold wholeIn
          rw [if_neg hcond, if_pos (.inr (fun e => h3 (by rw [hc] at e; exact Option.some.inj e))), hint]
abbrev n_law_is_name : List Str := ["_law_word", "_law_sign"]
theorem sc_law_is_name : FnScope n_law_is_name ["_law_word"] (defScope d_law_is_name) := ⟨rfl, rfl, rfl, by decide +kernel, rfl, by decide +kernel, by decide +kernel⟩
theorem ok_law_is_name (T : Top w K mg) : Has prg w K mg base CX0 1 (He.ga K "_law_is_name") ["_law_word"] spName := by
  obtain ⟨fd, F⟩ := T.F_law_is_name
  refine ⟨fd, F.ok (k := 0) sc_law_is_name (fun _ _ _ _ h => sp1_len h) (fun cdv A outer s H vs Q E hr h => ?_), F.bindsN (fun _ _ _ _ _ _ us hl => match us, hl with | [_], _ => rfl), F.kp⟩
  obtain ⟨v0, rfl, h⟩ := h
  refine ⟨_, PSs.nox (pss_one (ps_ret (pe_and (pe_chain op_le op_le pe_int (pe_callB call_len (by rfl) T.b_len (by decide +kernel) (pa_cons (pv 0) pa_nil)) pe_int) (pe_one (pe_callB (cr_all rfl) (by rfl) T.b_all (by decide +kernel) (pa_cons (pe_lc (own := [("_law_sign", 1)]) (g := gName 1) (by rfl) sc_law_is_name.nd (pi_str (pv 0)) (blkOk_by (N := n_law_is_name) (sc := defScope d_law_is_name) (own := [("_law_sign", 1)]) (by decide +kernel)) (fun _ _ _ _ _ => (pg_name (i := 1) sc_law_is_name.nd rfl (Or.inl rfl) (.inr rfl))) (fun _ _ _ _ _ => pts_nil) (fun _ _ _ _ _ => (pe_cmpR op_in_sign (pv 1) pe_str (by rfl)))) pa_nil)))))), ?_⟩
  obtain ⟨z, rfl, hz, q⟩ := h
  refine ⟨_, rfl, _, z.length, rfl, ⟨hz, rfl⟩, _, _, rfl, rfl, _, rfl, ?_⟩
  refine ite2 (fun h1 => ?_) (fun h1 => ?_)
  · refine ⟨_, _, rfl, rfl, _, rfl, ?_⟩
    have h1' : 1 ≤ z.length := by
      have := of_decide_eq_true h1
      omega
    by_cases h2 : z.length ≤ 12
    · rw [decide_eq_true (show ((z.length : Nat) : Int) ≤ 12 by omega)]
      refine ⟨_, rfl, z, rfl, fun D hD => ?_⟩
      refine lc_sgn (p := fun c => decide (c ∈ letL)) hD hz (fun c H1 Ky Kn s1 k => ⟨rfl, ⟨_, rfl, _, _, rfl, rfl, k⟩⟩) (fun H1 s1 hl => ?_)
      refine ⟨D, _, rfl, SqL.of hl, ?_⟩
      have e : isName z = (z.cps.toList.map fun c => decide (c ∈ letL)).all id := by
        unfold isName
        rw [decide_eq_true h1', decide_eq_true h2, all_map]
        rfl
      rw [e] at q
      exact q _ s1
    · rw [decide_eq_false (show ¬ ((z.length : Nat) : Int) ≤ 12 by omega)]
      have e : isName z = false := by
        unfold isName
        rw [decide_eq_false h2, Bool.and_false, Bool.false_and]
      rw [e] at q
      exact q _ (Same.refl _)
  · have h1' : ¬ 1 ≤ z.length := fun z' => h1 (decide_eq_true (show (1 : Int) ≤ (z.length : Nat) by omega))
    have e : isName z = false := by
      unfold isName
      rw [decide_eq_false h1', Bool.false_and, Bool.false_and]
    rw [e] at q
    exact ⟨_, rfl, q _ (Same.refl _)⟩
abbrev n_law_two : List Str := ["_law_words", "_law_rows", "_law_found", "_law_word"]
theorem sc_law_two : FnScope n_law_two ["_law_words", "_law_rows"] (defScope d_law_two) := ⟨rfl, rfl, rfl, by decide +kernel, rfl, by decide +kernel, by decide +kernel⟩
theorem ok_law_two (T : Top w K mg) : Has prg w K mg base CX0 1 (He.ga K "_law_two") ["_law_words", "_law_rows"] spTwoL := by
  obtain ⟨fd, F⟩ := T.F_law_two
  refine ⟨fd, F.ok (k := 0) sc_law_two (fun _ _ _ _ h => sp2_len h) (fun cdv A outer s H vs Q E hr h => ?_), F.bindsN (fun _ _ _ _ _ _ us hl => match us, hl with | [_, _], _ => rfl), F.kp⟩
  obtain ⟨v0, v1, rfl, h⟩ := h
  refine ⟨_, PSs.nox (pss_cons (ps_if (pt_not (pt_val (pe_callB (cr_all rfl) (by rfl) T.b_all (by decide +kernel) (pa_cons (pe_lc (own := [("_law_word", 3)]) (g := gName 3) (by rfl) sc_law_two.nd (pi_list (pv 0)) (blkOk_by (N := n_law_two) (sc := defScope d_law_two) (own := [("_law_word", 3)]) (by decide +kernel)) (fun _ _ _ _ _ => (pg_name (i := 3) sc_law_two.nd rfl (Or.inl rfl) (.inr rfl))) (fun _ _ _ _ _ => pts_nil) (fun _ _ _ _ _ => (pe_cmpR (op_in_seqK (K := K) rfl) (pv 3) (pv 1) (by rfl)))) pa_nil)))) (pss_one (ps_ret (pe_tup pa_nil))) pss_nil)
    (pss_cons (ps_set (i := 2) sc_law_two.nd rfl (Or.inl rfl) (pe_tup (pa_cons (pe_bm PySem.F.plainAttrs_list PySem.F.slot_list_index PySem.F.type_list_index mt_index (pv 1) (pa_cons (pe_ix ix_list (pv 0) pe_int (fun _ _ => rfl)) pa_nil)) (pa_cons (pe_bm PySem.F.plainAttrs_list PySem.F.slot_list_index PySem.F.type_list_index mt_index (pv 1) (pa_cons (pe_ix ix_list (pv 0) pe_int (fun _ _ => rfl)) pa_nil)) pa_nil))))
    (pss_one (ps_ret (pe_ifExp (pt_cmpR op_le (pe_ix ix_tup (pv 2) pe_int (fun _ _ => rfl)) (pe_ix ix_tup (pv 2) pe_int (fun _ _ => rfl)) (nomark _)) (pv 2) (pe_tup pa_nil)))))), ?_⟩
  obtain ⟨W, R, a, b, ns, rfl, rfl, hW, hR, hl, q⟩ := h
  refine ⟨_, rfl, W, rfl, ⟨_, SqL.of hW⟩, fun D2 hD2 => ?_⟩
  refine lc_words (ws := [a, b]) (f := fun z => V.bl (decide (z ∈ ns))) hD2 hW (by show 2 ≤ sizeLine; decide) ?_ ?_
  · intro z H2 Ky Kn hz s2 k
    refine ⟨rfl, _, rfl, _, rfl, R, _, rfl, .inl (SqL.of (s2 _ _ hR)), rfl, flat_strs ns, ?_⟩
    show Ky (.bl (inV (.str z) (ns.map V.str))) H2
    rw [inV_str]
    exact k _ (Same.refl _)
  intro H2 s2 hD2'
  have hD2' : H2 D2 = some (.lst ([decide (a ∈ ns), decide (b ∈ ns)].map V.bl)) := hD2'
  refine ⟨D2, _, rfl, SqL.of hD2', _, rfl, ?_⟩
  have qn : pairOf ns a b = none → (tRet (tTup tNil)) { nx := fun _ H' => Q .non H', rt := Q } [some (.ref W), some (.ref R), none, none] H2 := fun e => by
    refine ⟨(by show 0 ≤ sizeLine; decide), fun t ht => q _ t (s2.trans (same_new ht)) ?_⟩
    rw [e]
    exact upd_same
  by_cases ha : a ∈ ns
  · by_cases hb : b ∈ ns
    · rw [decide_eq_true ha, decide_eq_true hb]
      have hW2 := s2 _ _ hW
      have hR2 := s2 _ _ hR
      obtain ⟨i1, i2, i3⟩ := idx_str ha
      obtain ⟨j1, j2, j3⟩ := idx_str hb
      refine ⟨_, rfl, .inl ⟨rfl, _, SqL.of hR2⟩, _, rfl, W, _, _, _, rfl, rfl, SqL.of hW2, rfl, R, _, _, _, _, rfl, rfl, SqL.of hR2, rfl, flat_strs ns, i1, i2, i3, ?_⟩
      refine ⟨_, rfl, .inl ⟨rfl, _, SqL.of hR2⟩, _, rfl, W, _, _, _, rfl, rfl, SqL.of hW2, rfl, R, _, _, _, _, rfl, rfl, SqL.of hR2, rfl, flat_strs ns, j1, j2, j3, ?_⟩
      refine ⟨(by show 2 ≤ sizeLine; decide), fun t ht => ?_⟩
      have s3 := same_new (o := .tup [V.int (ns.idxOf a : Nat), V.int (ns.idxOf b : Nat)]) ht
      refine ⟨_, rfl, t, _, _, _, rfl, rfl, SqT.of upd_same, rfl, _, rfl, t, _, _, _, rfl, rfl, SqT.of upd_same, rfl, _, _, rfl, rfl, _, rfl, ?_⟩
      by_cases hle : ns.idxOf a ≤ ns.idxOf b
      · rw [decide_eq_true (show ((ns.idxOf a : Nat) : Int) ≤ (ns.idxOf b : Nat) by omega)]
        refine ⟨_, rfl, q _ t (s2.trans s3) ?_⟩
        unfold pairOf
        rw [if_pos ⟨ha, hb⟩, if_pos hle]
        exact upd_same
      · rw [decide_eq_false (show ¬ ((ns.idxOf a : Nat) : Int) ≤ (ns.idxOf b : Nat) by omega)]
        refine ⟨(by show 0 ≤ sizeLine; decide), fun t2 ht2 => q _ t2 ((s2.trans s3).trans (same_new ht2)) ?_⟩
        unfold pairOf
        rw [if_pos ⟨ha, hb⟩, if_neg hle]
        exact upd_same
    · rw [decide_eq_false hb]
      have e : [decide (a ∈ ns), false].all id = false := by simp
      rw [e]
      refine qn ?_
      unfold pairOf
      rw [if_neg fun z => hb z.2]
  · rw [decide_eq_false ha]
    refine qn ?_
    unfold pairOf
    rw [if_neg fun z => ha z.1]
abbrev n_law_is_pair : List Str := ["_law_words", "_law_rows", "_law_ahead", "_law_pair"]
theorem sc_law_is_pair : FnScope n_law_is_pair ["_law_words", "_law_rows", "_law_ahead"] (defScope d_law_is_pair) := ⟨rfl, rfl, rfl, by decide +kernel, rfl, by decide +kernel, by decide +kernel⟩
theorem ok_law_is_pair (T : Top w K mg) : Has prg w K mg base CX0 2 (He.ga K "_law_is_pair") ["_law_words", "_law_rows", "_law_ahead"] spIsPairL := by
  obtain ⟨fd, F⟩ := T.F_law_is_pair
  obtain ⟨fd_law_two, G_law_two, b_law_two, k_law_two⟩ := ok_law_two (base := base) T
  refine ⟨fd, F.ok (k := 1) sc_law_is_pair (fun _ _ _ _ h => sp3_len h) (fun cdv A outer s H vs Q E hr h => ?_), F.bindsN (fun _ _ _ _ _ _ us hl => match us, hl with | [_, _, _], _ => rfl), F.kp⟩
  obtain ⟨v0, v1, v2, rfl, h⟩ := h
  refine ⟨_, PSs.nox (pss_cons (ps_set (i := 3) sc_law_is_pair.nd rfl (Or.inl rfl) (pe_ifExp (pt_cmpR op_gt (pe_callB call_len (by rfl) T.b_len (by decide +kernel) (pa_cons (pv 0) pa_nil)) pe_int (nomark _)) (pe_call G_law_two (hr.mono (by decide)) (by rfl) T.g_law_two k_law_two b_law_two .nil pass0 (pa_cons (pe_slice sl_list (pv 0) (po_some pe_int) (po_some pe_int)) (pa_cons (pv 1) pa_nil))) (pe_tup pa_nil)))
    (pss_one (ps_ret (pe_and (pe_cmpR (op_neD hr.units) (pv 3) (pe_tup pa_nil) (nomark _)) (pe_one (pe_or (pe_cmpR (op_eqD hr.units) (pv 2) (pe_tup pa_nil) (nomark _)) (pe_one (pe_cmpR (op_ltT hr.units0) (pv 2) (pv 3) (nomark _))))))))), ?_⟩
  obtain ⟨W, R, A1, ws, ns, o, rfl, rfl, rfl, hW, hR, hA, hl, hwl, q⟩ := h
  refine ⟨_, rfl, _, ws.length, rfl, .inl ⟨_, SqL.of hW, by rw [List.length_map]⟩, _, _, rfl, rfl, _, rfl, ?_⟩
  have neq : ∀ (H3 : Hp) (t : Addr) (o' : Option (Nat × Nat)), Same H H3 → H3 t = some (.tup (tupOf o')) → pairIn ns ws = o' →
      (tRet (tAndV (tOp (rNeD K) (tVar 3) (tTup tNil)) (tOrV (tOp (rEqD K) (tVar 2) (tTup tNil)) (tOp (rLtT K) (tVar 2) (tVar 3))))) { nx := fun _ H' => Q .non H', rt := Q } [some (.ref W), some (.ref R), some (.ref A1), some (.ref t)] H3 := fun H3 t o' s3 ht ho => by
    refine ⟨_, rfl, (by show 0 ≤ sizeLine; decide), fun e he => ?_⟩
    have s4 := same_new (o := .tup []) he
    refine ⟨tupD o', .tuple [], tupD_rv (s4 _ _ ht), .tup (SqT.of upd_same) .nil, tupD_shaped _, by decide +kernel, _, rfl, ?_⟩
    rw [tupD_nil]
    have q4 := q _ (s3.trans s4)
    unfold isPair at q4
    rw [ho] at q4
    cases o' with
    | none => exact q4
    | some p =>
      refine ⟨_, rfl, (by show 0 ≤ sizeLine; decide), fun e2 he2 => ?_⟩
      have s5 := s4.trans (same_new (o := .tup []) he2)
      have hA5 := s5 _ _ (s3 _ _ hA)
      refine ⟨tupD o, .tuple [], tupD_rv hA5, .tup (SqT.of upd_same) .nil, tupD_shaped _, by decide +kernel, _, rfl, ?_⟩
      rw [tupD_nil]
      have q5 := q _ (s3.trans s5)
      unfold isPair at q5
      rw [ho] at q5
      cases o with
      | none => exact q5
      | some r =>
        refine ⟨_, rfl, _, rfl, A1, t, [(r.1 : Int), r.2], [(p.1 : Int), p.2], rfl, rfl, SqT.of hA5, SqT.of (s5 _ _ ht), ?_⟩
        rw [lexLt_pair]
        exact q5
  by_cases h2 : 2 < ws.length
  · rw [decide_eq_true (show (2 : Int) < ((ws.length : Nat) : Int) by omega)]
    obtain ⟨w0, x, y, rs, rfl⟩ : ∃ w0 x y rs, ws = w0 :: x :: y :: rs := by
      match ws, h2 with
      | [], h => exact absurd h (by simp)
      | [_], h => exact absurd h (by simp)
      | [_, _], h => exact absurd h (by simp)
      | a :: b :: c :: d, _ => exact ⟨a, b, c, d, rfl⟩
    refine ⟨_, rfl, 1, rfl, 3, rfl, W, _, rfl, SqL.of hW, fun p2 hp2 => ?_⟩
    have e2 : cutV ((w0 :: x :: y :: rs).map V.str) (some 1) (some 3) = [x, y].map V.str := cutV_mid _ 1 3
    rw [e2]
    have s2 := same_new (o := .lst ([x, y].map V.str)) hp2
    refine ⟨_, rfl, _, _, rfl, p2, R, x, y, ns, rfl, rfl, upd_same, s2 _ _ hR, hl, fun H3 t s3 ht => ?_⟩
    exact neq H3 t _ (s2.trans s3) ht rfl
  · rw [decide_eq_false (show ¬ (2 : Int) < ((ws.length : Nat) : Int) by omega)]
    refine ⟨(by show 0 ≤ sizeLine; decide), fun t ht => ?_⟩
    refine neq _ t none (same_new ht) upd_same ?_
    unfold pairIn
    match ws, h2 with
    | [], _ => rfl
    | [_], _ => rfl
    | [_, _], _ => rfl
    | _ :: _ :: _ :: _, h => exact absurd (by simp) h
end
end SK

set_option maxHeartbeats 4000000
/-! the law's own reading of lines, beside the program's -/
namespace SL
open PySem PySem.Spec PyProof.Rows L2
structure FW where
  sort : Str
  zooms : Int
  rows : List Str
  ahead : Option (Nat × Nat)
def in110 (n : Int) : Bool := decide (1 < n) && decide (n < 10)
def clsOk (ws : List Str) (z : Int) (rows : List Str) : Bool := match ws with
  | _ :: nm :: f :: l :: m :: s :: ss => isName nm && (decide (nm ∉ rows) && (decide (rows.length ≤ 3) && (decide (0 ≤ numW f) && (decide (numW f < z) && (decide (numW f + ((s :: ss).length : Nat) ≤ z) &&
      (((s :: ss).map numW).all in110 && (adj ((s :: ss).map numW) && (decide (0 < numW l) && (decide (numW l < 10) && (decide (numW l ≤ numW m) && decide (numW m ≤ numW l + 3)))))))))))
  | _ => false
def zmOf (ws : List Str) : Int := match ws with
  | [_, a] => numW a
  | _ => 0
def farNum (ws : List Str) : Bool := match ws with
  | _ :: _ :: _ :: d :: _ => decide (0 < numW d) && decide (numW d < 10000)
  | _ => false
def fwStep (s : FW) (ws : List Str) : Option FW := match ws with
  | [] => none
  | w0 :: r => if w0 ∈ behind s.sort then
      (if w0 = "zooms" then (if 0 < zmOf (w0 :: r) ∧ zmOf (w0 :: r) < 6 then some ⟨w0, zmOf (w0 :: r), s.rows, if w0 = s.sort then s.ahead else none⟩ else none)
      else if w0 = "class" then (if clsOk (w0 :: r) s.zooms s.rows = true then some ⟨w0, s.zooms, s.rows ++ r.take 1, if w0 = s.sort then s.ahead else none⟩ else none)
      else if w0 = "beside" then (if isPair s.rows (w0 :: r) (if w0 = s.sort then s.ahead else none) = true ∧ (w0 :: r).length = 3 then some ⟨w0, s.zooms, s.rows, pairIn s.rows (w0 :: r)⟩ else none)
      else (if (isPair s.rows (w0 :: r) (if w0 = s.sort then s.ahead else none) = true ∧ (w0 :: r).length = 4) ∧ farNum (w0 :: r) = true then some ⟨w0, s.zooms, s.rows, pairIn s.rows (w0 :: r)⟩ else none)) else none
structure Rel (s : FW) (st : RSt) : Prop where
  so : s.sort = st.sort
  zo : st.sort ≠ "" → s.zooms = st.last + 1
  ro : s.rows = names st
  r4 : st.rows.length ≤ 4
  b0 : st.sort ≠ "beside" → st.sort ≠ "far" → st.beside = []
  f0 : st.sort ≠ "far" → st.far = []
  ab : st.sort = "beside" → s.ahead = st.beside.getLast?
  af : st.sort = "far" → s.ahead = (st.far.getLast?).map (·.1)
  an : st.sort ≠ "beside" → st.sort ≠ "far" → s.ahead = none
theorem numW_some {z : Str} {n : Int} (h : wholeIn z = some n) : numW z = n := by
  unfold numW
  rw [h]
  rfl
theorem numW_none {z : Str} (h : wholeIn z = none) : numW z = -1 := by
  unfold numW
  rw [h]
  rfl
theorem whole_pos {z : Str} (h : 0 ≤ numW z) : wholeIn z = some (numW z) := by
  cases e : wholeIn z with
  | none =>
    rw [numW_none e] at h
    omega
  | some n => rw [numW_some e]
theorem behind_zooms {s : Str} (h : ("zooms" : Str) ∈ behind s) : s = "" := by
  unfold behind at h
  repeat' split at h
  all_goals first | assumption | exact absurd h (by decide +kernel)
theorem behind_cls {s : Str} (h : ("class" : Str) ∈ behind s) : s = "zooms" ∨ s = "class" := by
  unfold behind at h
  repeat' split at h
  all_goals first | exact .inl (by assumption) | exact .inr (by assumption) | exact absurd h (by decide +kernel)
theorem behind_bes {s : Str} (h : ("beside" : Str) ∈ behind s) : s = "class" ∨ s = "beside" := by
  unfold behind at h
  repeat' split at h
  all_goals first | exact .inl (by assumption) | exact .inr (by assumption) | exact absurd h (by decide +kernel)
theorem behind_far {s : Str} (h : ("far" : Str) ∈ behind s) : s ≠ "" ∧ s ≠ "zooms" := by
  refine ⟨fun e => ?_, fun e => ?_⟩ <;> (rw [e] at h; exact absurd h (by decide +kernel))
theorem clsOk_row {ws : List Str} {last : Int} {rows : List Str} (h : clsOk ws (last + 1) rows = true) : ∃ r, classRow ws last = some r ∧ r.name ∉ rows ∧ rows.length ≤ 3 ∧ [r.name] = (ws.drop 1).take 1 := by
  unfold clsOk at h
  split at h
  · rename_i w0 nm f l m s ss
    simp only [Bool.and_eq_true, decide_eq_true_eq] at h
    obtain ⟨h1, h2, h3, h4, h5, h6, h7, h8, h9, h10, h11, h12⟩ := h
    have es : intsOf ((s :: ss).map wholeIn) = some ((s :: ss).map numW) := by
      rw [← intsOf_map ((s :: ss).map numW), List.map_map]
      congr 1
      refine List.map_congr_left fun z hz => ?_
      have := List.all_eq_true.mp h7 (numW z) (List.mem_map.mpr ⟨z, hz, rfl⟩)
      unfold in110 at this
      simp only [Bool.and_eq_true, decide_eq_true_eq] at this
      exact whole_pos (by omega)
    have e1 := whole_pos h4
    have e2 := whole_pos (z := l) (by omega)
    have e3 := whole_pos (z := m) (by omega)
    have er : rowOf (w0 :: nm :: f :: l :: m :: s :: ss) = some ⟨nm, numW f, numW l, numW m, (s :: ss).map numW⟩ := by
      show (match wholeIn f, wholeIn l, wholeIn m, intsOf ((s :: ss).map wholeIn) with
        | some f, some l, some m, some ns => some (⟨nm, f, l, m, ns⟩ : Row)
        | _, _, _, _ => none) = _
      rw [e1, e2, e3, es]
    refine ⟨⟨nm, numW f, numW l, numW m, (s :: ss).map numW⟩, ?_, h2, h3, rfl⟩
    unfold classRow
    rw [er]
    refine if_pos (rowOk_iff.mpr ⟨h1, h4, ?_, ?_, by show 1 ≤ numW l; omega, by show numW l ≤ 9; omega, h11, h12⟩)
    · unfold sizesOk
      rw [h8, Bool.and_true]
      show (true && _) = true
      rw [Bool.true_and]
      refine List.all_eq_true.mpr fun n hn => ?_
      have := List.all_eq_true.mp h7 n hn
      unfold in110 at this
      simp only [Bool.and_eq_true, decide_eq_true_eq] at this ⊢
      omega
    · show numW f + ((s :: ss).map numW).length - 1 ≤ last
      rw [List.length_map]
      omega
  · cases h
theorem row_clsOk {ws : List Str} {last : Int} {rows : List Str} {r : Row} (h : classRow ws last = some r) (hn : r.name ∉ rows) (hl : rows.length ≤ 3) : clsOk ws (last + 1) rows = true := by
  obtain ⟨h1, h2⟩ := classRow_some h
  match ws, h1 with
  | [], h => cases h
  | [_], h => cases h
  | [_, _], h => cases h
  | [_, _, _], h => cases h
  | [_, _, _, _], h => cases h
  | [_, _, _, _, _], h => cases h
  | w0 :: nm :: f :: l :: m :: s :: ss, h1 =>
    obtain ⟨e0, e1, e2, e3, e4⟩ := rowOf_inv h1
    obtain ⟨g1, g2, g3, g4, g5, g6, g7, g8⟩ := rowOk_iff.mp h2
    have es : (s :: ss).map numW = r.sizes := by
      have := intsOf_some e4
      have e5 : (s :: ss).map numW = ((s :: ss).map wholeIn).map fun o => o.getD (-1) := by rw [List.map_map]; rfl
      rw [e5, this, List.map_map]
      exact List.map_id' _
    have el : (s :: ss).length = r.sizes.length := by
      rw [← es, List.length_map]
    show (isName nm && _) = true
    rw [es, numW_some e1, numW_some e2, numW_some e3, el, ← e0]
    simp only [Bool.and_eq_true, decide_eq_true_eq]
    refine ⟨g1, hn, hl, g2, ?_, by omega, ?_, ?_, by omega, by omega, g7, g8⟩
    · have := sizesOk_pos g3
      omega
    · refine List.all_eq_true.mpr fun n hn => ?_
      have := sizes_rng g3 hn
      unfold in110
      simp only [Bool.and_eq_true, decide_eq_true_eq]
      omega
    · unfold sizesOk at g3
      simp only [Bool.and_eq_true] at g3
      exact g3.2.2
theorem aheadOk_any (o : Option (Nat × Nat)) (p : Nat × Nat) : aheadOk o p = !(o.any fun q => pairLe p q) := by
  cases o <;> rfl
theorem nz {a b : Str} (h : decide (a = b) = false) : a ≠ b := of_decide_eq_false h
theorem fw_step {s : FW} {st : RSt} (R : Rel s st) (ws : List Str) : match fwStep s ws with
    | none => takeWords st ws = none
    | some s' => ∃ st', takeWords st ws = some st' ∧ Rel s' st' := by
  cases ws with
  | nil => rfl
  | cons w0 r =>
    have hso := R.so
    by_cases hb : w0 ∈ behind st.sort
    · have hT : takeWords st (w0 :: r) = if w0 = "zooms" then takeZooms { st with sort := w0 } (w0 :: r) else if w0 = "class" then takeClass { st with sort := w0 } (w0 :: r) else if w0 = "beside" then takeBeside { st with sort := w0 } (w0 :: r) else takeFar { st with sort := w0 } (w0 :: r) := if_pos hb
      have hF : fwStep s (w0 :: r) = (if w0 = "zooms" then (if 0 < zmOf (w0 :: r) ∧ zmOf (w0 :: r) < 6 then some ⟨w0, zmOf (w0 :: r), s.rows, if w0 = s.sort then s.ahead else none⟩ else none)
          else if w0 = "class" then (if clsOk (w0 :: r) s.zooms s.rows = true then some ⟨w0, s.zooms, s.rows ++ r.take 1, if w0 = s.sort then s.ahead else none⟩ else none)
          else if w0 = "beside" then (if isPair s.rows (w0 :: r) (if w0 = s.sort then s.ahead else none) = true ∧ (w0 :: r).length = 3 then some ⟨w0, s.zooms, s.rows, pairIn s.rows (w0 :: r)⟩ else none)
          else (if (isPair s.rows (w0 :: r) (if w0 = s.sort then s.ahead else none) = true ∧ (w0 :: r).length = 4) ∧ farNum (w0 :: r) = true then some ⟨w0, s.zooms, s.rows, pairIn s.rows (w0 :: r)⟩ else none)) := if_pos (by rw [hso]; exact hb)
      rw [hT, hF]
      by_cases c1 : w0 = "zooms"
      · subst c1
        have e0 := behind_zooms hb
        rw [if_pos rfl, if_pos rfl]
        have ea : (if ("zooms" : Str) = s.sort then s.ahead else none) = none := if_neg (by rw [hso, e0]; decide)
        rw [ea]
        have gb := R.b0 (by rw [e0]; decide) (by rw [e0]; decide)
        have gf := R.f0 (by rw [e0]; decide)
        match r with
        | [] =>
          rw [if_neg (by show ¬ (0 < (0 : Int) ∧ _); omega)]
          rfl
        | [a] =>
          rw [show zmOf ["zooms", a] = numW a from rfl]
          by_cases hz : 0 < numW a ∧ numW a < 6
          · rw [if_pos hz]
            have ew := whole_pos (z := a) (by omega)
            refine ⟨{ st with sort := "zooms", last := numW a - 1 }, ?_, ⟨rfl, fun _ => ?_, R.ro, R.r4, fun _ _ => gb, fun _ => gf, fun z => absurd z (show ("zooms" : Str) ≠ "beside" by decide), fun z => absurd z (show ("zooms" : Str) ≠ "far" by decide), fun _ _ => rfl⟩⟩
            · show (wholeIn a).bind _ = _
              rw [ew]
              exact if_pos ⟨by omega, by omega⟩
            · show numW a = numW a - 1 + 1
              omega
          · rw [if_neg hz]
            show (wholeIn a).bind _ = none
            cases ew : wholeIn a with
            | none => rfl
            | some n =>
              rw [numW_some ew] at hz
              exact if_neg fun z => hz ⟨by omega, by omega⟩
        | a :: b :: c =>
          rw [if_neg (by show ¬ (0 < (0 : Int) ∧ _); omega)]
          rfl
      · rw [if_neg c1, if_neg c1]
        by_cases c2 : w0 = "class"
        · subst c2
          have e0 := behind_cls hb
          rw [if_pos rfl, if_pos rfl]
          have nb : st.sort ≠ "beside" := by rcases e0 with e | e <;> (rw [e]; decide)
          have nf : st.sort ≠ "far" := by rcases e0 with e | e <;> (rw [e]; decide)
          have ne : st.sort ≠ "" := by rcases e0 with e | e <;> (rw [e]; decide)
          have ea : (if ("class" : Str) = s.sort then s.ahead else none) = none := by
            split
            · exact R.an nb nf
            · rfl
          rw [ea, R.zo ne, R.ro]
          by_cases hc : clsOk ("class" :: r) (st.last + 1) (names st) = true
          · rw [if_pos hc]
            obtain ⟨q, h1, h2, h3, h4⟩ := clsOk_row hc
            have hl : (names st).length = st.rows.length := by unfold names; rw [List.length_map]
            refine ⟨{ st with sort := "class", rows := st.rows ++ [q] }, ?_, ⟨rfl, fun _ => rfl, ?_, ?_, fun _ _ => R.b0 nb nf, fun _ => R.f0 nf, fun z => absurd z (show ("class" : Str) ≠ "beside" by decide), fun z => absurd z (show ("class" : Str) ≠ "far" by decide), fun _ _ => rfl⟩⟩
            · unfold takeClass
              show (classRow ("class" :: r) st.last).bind _ = _
              rw [h1]
              refine if_neg fun z => ?_
              rcases z with z | z
              · have z : st.rows.length = 4 := z
                omega
              · exact h2 z
            · show names st ++ r.take 1 = (st.rows ++ [q]).map (·.name)
              rw [List.map_append]
              have h4 : [q.name] = r.take 1 := h4
              rw [← h4]
              rfl
            · show (st.rows ++ [q]).length ≤ 4
              rw [List.length_append]
              show st.rows.length + 1 ≤ 4
              omega
          · rw [if_neg hc]
            unfold takeClass
            show (classRow ("class" :: r) st.last).bind _ = none
            cases er : classRow ("class" :: r) st.last with
            | none => rfl
            | some q =>
              refine if_pos ?_
              by_cases h1 : q.name ∈ names st
              · exact .inr h1
              · refine .inl ?_
                have hl : (names st).length = st.rows.length := by unfold names; rw [List.length_map]
                have h4 := R.r4
                by_cases h5 : st.rows.length = 4
                · exact h5
                · exact absurd (row_clsOk er h1 (by omega)) hc
        · rw [if_neg c2, if_neg c2]
          by_cases c3 : w0 = "beside"
          · subst c3
            have e0 := behind_bes hb
            rw [if_pos rfl, if_pos rfl]
            have nf : st.sort ≠ "far" := by rcases e0 with e | e <;> (rw [e]; decide)
            have ne : st.sort ≠ "" := by rcases e0 with e | e <;> (rw [e]; decide)
            have ea : (if ("beside" : Str) = s.sort then s.ahead else none) = st.beside.getLast? := by
              rcases e0 with e | e
              · rw [if_neg (by rw [hso, e]; decide), R.b0 (by rw [e]; decide) nf]
                rfl
              · rw [if_pos (by rw [hso, e]), R.ab e]
            rw [ea, R.ro]
            match r with
            | [] =>
              rw [if_neg fun z => absurd z.2 (by simp)]
              rfl
            | [a] =>
              rw [if_neg fun z => absurd z.2 (by simp)]
              rfl
            | a :: b :: c :: d =>
              rw [if_neg fun z => absurd z.2 (by simp)]
              rfl
            | [a, b] =>
              have ep : pairIn (names st) ["beside", a, b] = pairOf (names st) a b := rfl
              have hi : isPair (names st) ["beside", a, b] st.beside.getLast? = (match pairOf (names st) a b with | none => false | some p => aheadOk st.beside.getLast? p) := rfl
              have ht : takeBeside { st with sort := "beside" } ["beside", a, b] = (pairOf (names st) a b).bind fun p => if (st.beside.getLast?.any fun q => pairLe p q) then none else some { st with sort := "beside", beside := st.beside ++ [p] } := rfl
              cases eq : pairOf (names st) a b with
              | none =>
                rw [eq] at hi ht
                rw [if_neg fun z => absurd (hi.symm.trans z.1) Bool.false_ne_true]
                exact ht
              | some p =>
                rw [eq] at hi ht
                have hi := hi.trans (aheadOk_any _ _)
                cases ey : st.beside.getLast?.any fun q => pairLe p q with
                | true =>
                  rw [ey] at hi
                  rw [if_neg fun z => absurd (hi.symm.trans z.1) Bool.false_ne_true]
                  exact ht.trans (if_pos ey)
                | false =>
                  rw [ey] at hi
                  rw [if_pos ⟨hi, rfl⟩]
                  refine ⟨{ st with sort := "beside", beside := st.beside ++ [p] }, ht.trans (if_neg (by rw [ey]; decide)), ⟨rfl, fun _ => R.zo ne, rfl, R.r4, fun z => absurd rfl z, fun _ => R.f0 nf, fun _ => ?_, fun z => absurd z (show ("beside" : Str) ≠ "far" by decide), fun z => absurd rfl z⟩⟩
                  show pairIn (names st) ["beside", a, b] = (st.beside ++ [p]).getLast?
                  rw [ep, eq, List.getLast?_concat]
          · rw [if_neg c3, if_neg c3]
            have c4 : w0 = "far" := by
              rcases behind_ok hb with e | e | e | e | e
              · rw [e] at hb
                unfold behind at hb
                repeat' split at hb
                all_goals exact absurd hb (by decide +kernel)
              · exact absurd e c1
              · exact absurd e c2
              · exact absurd e c3
              · exact e
            subst c4
            obtain ⟨ne, nz'⟩ := behind_far hb
            have ea : (if ("far" : Str) = s.sort then s.ahead else none) = (st.far.getLast?).map (·.1) := by
              by_cases e : st.sort = "far"
              · rw [if_pos (by rw [hso, e]), R.af e]
              · rw [if_neg (by rw [hso]; exact Ne.symm e), R.f0 e]
                rfl
            rw [ea, R.ro]
            match r with
            | [] =>
              rw [if_neg fun z => absurd z.1.2 (by simp)]
              rfl
            | [a] =>
              rw [if_neg fun z => absurd z.1.2 (by simp)]
              rfl
            | [a, b] =>
              rw [if_neg fun z => absurd z.1.2 (by simp)]
              rfl
            | a :: b :: c :: d :: e =>
              rw [if_neg fun z => absurd z.1.2 (by simp)]
              rfl
            | [a, b, d] =>
              have ep : pairIn (names st) ["far", a, b, d] = pairOf (names st) a b := rfl
              have hi : isPair (names st) ["far", a, b, d] ((st.far.getLast?).map (·.1)) = (match pairOf (names st) a b with | none => false | some p => aheadOk ((st.far.getLast?).map (·.1)) p) := rfl
              have hn : farNum ["far", a, b, d] = (decide (0 < numW d) && decide (numW d < 10000)) := rfl
              have ht : takeFar { st with sort := "far" } ["far", a, b, d] = (pairOf (names st) a b).bind fun p => if (st.far.getLast?.any fun q => pairLe p q.1) then none else (wholeIn d).bind fun n => if 1 ≤ n ∧ n ≤ 9999 then some { st with sort := "far", far := st.far ++ [(p, n)] } else none := rfl
              cases eq : pairOf (names st) a b with
              | none =>
                rw [eq] at hi ht
                rw [if_neg fun z => absurd (hi.symm.trans z.1.1) Bool.false_ne_true]
                exact ht
              | some p =>
                rw [eq] at hi ht
                have hi := hi.trans (aheadOk_any _ _)
                rw [Option.any_map] at hi
                cases ey : st.far.getLast?.any (fun q => pairLe p q.1) with
                | true =>
                  rw [ey] at hi
                  rw [if_neg fun z => absurd (hi.symm.trans z.1.1) Bool.false_ne_true]
                  exact ht.trans (if_pos ey)
                | false =>
                  rw [ey] at hi
                  have ht := ht.trans (if_neg (by rw [show (st.far.getLast?.any fun q => pairLe p q.1) = false from ey]; decide))
                  by_cases hd : 0 < numW d ∧ numW d < 10000
                  · rw [if_pos ⟨⟨hi, rfl⟩, hn.trans (by rw [decide_eq_true hd.1, decide_eq_true hd.2]; rfl)⟩]
                    refine ⟨{ st with sort := "far", far := st.far ++ [(p, numW d)] }, ?_, ⟨rfl, fun _ => R.zo ne, rfl, R.r4, fun _ z => absurd rfl z, fun z => absurd rfl z, fun z => absurd z (show ("far" : Str) ≠ "beside" by decide), fun _ => ?_, fun _ z => absurd rfl z⟩⟩
                    · rw [ht, whole_pos (z := d) (by omega)]
                      exact if_pos ⟨by omega, by omega⟩
                    · show pairIn (names st) ["far", a, b, d] = ((st.far ++ [(p, numW d)]).getLast?).map (·.1)
                      rw [ep, eq, List.getLast?_concat]
                      rfl
                  · rw [if_neg fun z => hd (by simpa using hn.symm.trans z.2)]
                    show takeFar { st with sort := "far" } ["far", a, b, d] = none
                    rw [ht]
                    cases ew : wholeIn d with
                    | none => rfl
                    | some n =>
                      rw [numW_some ew] at hd
                      exact if_neg fun z => hd ⟨by omega, by omega⟩
    · have e1 : fwStep s (w0 :: r) = none := if_neg (by rw [hso]; exact hb)
      rw [e1]
      exact if_neg hb
def fwL : FW → Nat → List Str → Except Nat FW
  | s, _, [] => .ok s
  | s, n, z :: zs => match fwStep s (Txt.split z " ") with
    | none => .error (n + 1)
    | some s' => fwL s' (n + 1) zs
def fw0 : FW := ⟨"", 0, [], none⟩
def fwNum (ls : List Str) : Nat := match fwL fw0 0 ls with
  | .error n => n
  | .ok s => if s.rows = [] then ls.length + 1 else 0
theorem Rel.zero : Rel fw0 stZero := ⟨rfl, fun z => absurd rfl z, rfl, Nat.zero_le _, fun _ _ => rfl, fun _ => rfl, fun z => absurd z (show ("" : Str) ≠ "beside" by decide), fun z => absurd z (show ("" : Str) ≠ "far" by decide), fun _ _ => rfl⟩
theorem fwL_rel : ∀ (ls : List Str) (s : FW) (st : RSt) (n : Nat), Rel s st → (∃ k, fwL s n ls = .error k ∧ readL st n ls = .error k ∧ 0 < k) ∨ ∃ s' st', fwL s n ls = .ok s' ∧ readL st n ls = .ok st' ∧ Rel s' st'
  | [], s, st, n, R => .inr ⟨s, st, rfl, rfl, R⟩
  | z :: zs, s, st, n, R => by
    have h := fw_step R (Txt.split z " ")
    cases e : fwStep s (Txt.split z " ") with
    | none =>
      rw [e] at h
      refine .inl ⟨n + 1, ?_, ?_, by omega⟩
      · show (match fwStep s (Txt.split z " ") with | none => Except.error (n + 1) | some s' => fwL s' (n + 1) zs) = _
        rw [e]
      · show (match takeLine st z with | none => Except.error (n + 1) | some st' => readL st' (n + 1) zs) = _
        rw [show takeLine st z = none from h]
    | some s' =>
      rw [e] at h
      obtain ⟨st', h1, h2⟩ := h
      have e1 : fwL s n (z :: zs) = fwL s' (n + 1) zs := by
        show (match fwStep s (Txt.split z " ") with | none => Except.error (n + 1) | some s' => fwL s' (n + 1) zs) = _
        rw [e]
      rw [e1, readL_some (show takeLine st z = some st' from h1)]
      exact fwL_rel zs s' st' (n + 1) h2
/-- the law's number tells what the program's reader tells -/
theorem fwNum_read {x : Str} {ls : List Str} (h : Txt.split x "\n" = ls) : (fwNum ls = 0 ∧ ∃ st, readStyle x = .ok st) ∨ (fwNum ls ≠ 0 ∧ readStyle x = .error (fwNum ls)) := by
  subst h
  unfold fwNum readStyle
  rcases fwL_rel (Txt.split x "\n") fw0 stZero 0 Rel.zero with ⟨k, h1, h2, h3⟩ | ⟨s', st', h1, h2, R⟩
  · rw [h1, h2]
    exact .inr ⟨by show k ≠ 0; omega, rfl⟩
  · rw [h1, h2]
    dsimp only
    have e : s'.rows = [] ↔ st'.rows = [] := by
      rw [R.ro]
      unfold names
      exact List.map_eq_nil_iff
    by_cases he : st'.rows = []
    · rw [if_pos he, if_pos (e.mpr he)]
      exact .inr ⟨by omega, rfl⟩
    · rw [if_neg he, if_neg fun z => he (e.mp z)]
      exact .inl ⟨rfl, st', rfl⟩
end SL
set_option maxHeartbeats 4000000
/-! comprehensions over lists of ints -/
namespace SL
open PySem PySem.Spec PyProof.Rows L2
/-- a comprehension over a list of ints -/
theorem lc_ints {K : PySem.W.Frag} {Z : Addr} {ns : List Int} {f : Int → V} {g : TG} {tt : TT} {te : TE} {ow : List Nat} {σ : L2.St} {H1 : Hp} {D : Addr} {Qd : Hp → Prop} (hD : H1 D = none) (hZ : H1 Z = some (.lst (ns.map V.int))) (hn : ns.length ≤ 1000)
    (hs : ∀ n ∈ ns, ∀ H (Ky : V → Hp → Prop) (Kn : Hp → Prop), Same H1 H → (∀ H4, Same H H4 → Ky (f n) H4) → g (.int n) (wipe σ ow) H fun σ2 H2 => wipe σ2 ow = wipe σ ow ∧ tt σ2 H2 fun b H3 => if b = true then te σ2 H3 Ky else Kn H3)
    (hd : ∀ H, Same H1 H → H D = some (.lst (ns.map f)) → Qd H) :
    ∃ W : Nat → Nat → Hp → Prop, (∃ m, W 0 m (upd H1 D (.lst []))) ∧ ∀ i m H, W i m H →
      ((Itl K Z).stop i H ∧ Qd H) ∨ ((Itl K Z).go i H ∧ ∃ Nx : Hp → Prop, (∀ H', Nx H' → ∃ m', m' < m ∧ W (i + 1) m' H') ∧ ∀ x H', (Itl K Z).yld i H x H' → g x (wipe σ ow) H' fun σ2 H2 => wipe σ2 ow = wipe σ ow ∧ tt σ2 H2 fun b H3 =>
        if b = true then te σ2 H3 fun y H4 => ∃ acc, H4 D = some (.lst acc) ∧ acc.length < sizeLine ∧ Nx (upd H4 D (.lst (acc ++ [y]))) else Nx H3) := by
  refine lc_fm (walk_list (xs := ns.map V.int)) (fun i => some ((ns[i]?.map f).getD .non)) hD (by rw [List.length_map, sizeLine_eq]; omega) (fun H s => SqL.of (s _ _ hZ)) ?_ ?_
  · rintro i v H H' Ky Kn hi s1 ⟨rfl, hv⟩ ky kn
    rw [List.getElem?_map] at hv
    obtain ⟨n, hn, rfl⟩ := Option.map_eq_some_iff.mp hv
    refine hs n (List.mem_of_getElem? hn) H' Ky Kn s1 fun H4 s4 => ky _ _ ?_ s4
    rw [hn]
    rfl
  · intro H s h
    refine hd H s ?_
    rw [h, fm_some, List.length_map, map_get ns f]
/-- .. whose items are frozen data -/
theorem lc_intsZ {K : PySem.W.Frag} {Z : Addr} {ns : List Int} {f : Int → PyData} (hf : ∀ n, fz (f n) = true) {g : TG} {tt : TT} {te : TE} {ow : List Nat} {σ : L2.St} {H1 : Hp} {D : Addr} {Qd : Hp → Prop} (hD : H1 D = none) (hZ : H1 Z = some (.lst (ns.map V.int))) (hn : ns.length ≤ 1000)
    (hs : ∀ n ∈ ns, ∀ H (Ky : V → Hp → Prop) (Kn : Hp → Prop), Same H1 H → (∀ y H4, Rv H4 y (f n) → Same H H4 → Ky y H4) → g (.int n) (wipe σ ow) H fun σ2 H2 => wipe σ2 ow = wipe σ ow ∧ tt σ2 H2 fun b H3 => if b = true then te σ2 H3 Ky else Kn H3)
    (hd : ∀ H l, Same H1 H → H D = some (.lst l) → RvL H l (ns.map f) → Qd H) :
    ∃ W : Nat → Nat → Hp → Prop, (∃ m, W 0 m (upd H1 D (.lst []))) ∧ ∀ i m H, W i m H →
      ((Itl K Z).stop i H ∧ Qd H) ∨ ((Itl K Z).go i H ∧ ∃ Nx : Hp → Prop, (∀ H', Nx H' → ∃ m', m' < m ∧ W (i + 1) m' H') ∧ ∀ x H', (Itl K Z).yld i H x H' → g x (wipe σ ow) H' fun σ2 H2 => wipe σ2 ow = wipe σ ow ∧ tt σ2 H2 fun b H3 =>
        if b = true then te σ2 H3 fun y H4 => ∃ acc, H4 D = some (.lst acc) ∧ acc.length < sizeLine ∧ Nx (upd H4 D (.lst (acc ++ [y]))) else Nx H3) := by
  refine lc_fz (walk_list (xs := ns.map V.int)) (fun i => (ns[i]?).map f) (fun i d e => by
    obtain ⟨n, _, rfl⟩ := Option.map_eq_some_iff.mp e
    exact hf n) hD (by rw [List.length_map, sizeLine_eq]; omega) (fun H s => SqL.of (s _ _ hZ)) ?_ ?_
  · rintro i v H H' Ky Kn hi s1 ⟨rfl, hv⟩ ky kn
    rw [List.getElem?_map] at hv
    obtain ⟨n, hn, rfl⟩ := Option.map_eq_some_iff.mp hv
    refine hs n (List.mem_of_getElem? hn) H' Ky Kn s1 fun y H4 r s4 => ky y _ H4 ?_ r s4
    rw [hn]
    rfl
  · intro H l s h r
    refine hd H l s h ?_
    rw [List.length_map] at r
    have e := fm_get (fun n => some (f n)) ns
    have e2 : (fun i : Nat => (ns[i]?).map f) = fun i : Nat => (ns[i]?).bind fun n => some (f n) := by
      funext i
      cases ns[i]? <;> rfl
    have e3 : ns.filterMap (fun n => some (f n)) = ns.map f := List.filterMap_eq_map ▸ rfl
    rw [e2, e, e3] at r
    exact r
end SL
set_option maxHeartbeats 4000000
namespace SL
open PySem PySem.Spec PyProof.Rows L2
def spIsClassL : Sp := sp3 fun a b c H Q _ => ∃ (W R : Addr) (ws ns : List Str) (z : Int), a = .ref W ∧ b = .int z ∧ c = .ref R ∧ H W = some (.lst (ws.map V.str)) ∧ H R = some (.lst (ns.map V.str)) ∧ ws.length ≤ 1000 ∧ ns.length ≤ 1000 ∧ (∀ z ∈ ws, z.length ≤ 640) ∧
  ∀ H', Same H H' → Q (.bl (clsOk ws z ns)) H'
end SL
namespace SK
open PySem PySem.Spec PyProof.Rows L2 SL
section
variable {w : World} {K : PySem.W.Frag} {mg : Str → Option Value} {base : Heap}
abbrev n_law_is_class : List Str := ["_law_words", "_law_zooms", "_law_rows", "_law_sizes_here", "_law_first", "_law_least", "_law_most", "_law_word", "_law_size", "_law_later"]
theorem sc_law_is_class : FnScope n_law_is_class ["_law_words", "_law_zooms", "_law_rows"] (defScope d_law_is_class) := ⟨rfl, rfl, rfl, by decide +kernel, rfl, by decide +kernel, by decide +kernel⟩
theorem ok_law_is_class (T : Top w K mg) : Has prg w K mg base CX0 2 (He.ga K "_law_is_class") ["_law_words", "_law_zooms", "_law_rows"] spIsClassL := by
  obtain ⟨fd, F⟩ := T.F_law_is_class
  obtain ⟨fd_law_is_name, G_law_is_name, b_law_is_name, k_law_is_name⟩ := ok_law_is_name (base := base) T
  obtain ⟨fd_law_number, G_law_number, b_law_number, k_law_number⟩ := ok_law_number (base := base) T
  refine ⟨fd, F.ok (k := 1) sc_law_is_class (fun _ _ _ _ h => sp3_len h) (fun cdv A outer s H vs Q E hr h => ?_), F.bindsN (fun _ _ _ _ _ _ us hl => match us, hl with | [_, _, _], _ => rfl), F.kp⟩
  obtain ⟨v0, v1, v2, rfl, h⟩ := h
  refine ⟨_, PSs.nox (pss_cons (ps_if (PW.pt (pw_or (pt_cmpR op_lt (pe_callB call_len (by rfl) T.b_len (by decide +kernel) (pa_cons (pv 0) pa_nil)) pe_int (nomark _)) (pw_or (pt_not (pt_val (pe_call G_law_is_name (hr.mono (by decide)) (by rfl) T.g_law_is_name k_law_is_name b_law_is_name .nil pass0 (pa_cons (pe_ix ix_list (pv 0) pe_int (fun _ _ => rfl)) pa_nil)))) (pw_or (pt_cmpR op_in_seq (pe_ix ix_list (pv 0) pe_int (fun _ _ => rfl)) (pv 2) (by rfl)) (pw_or1 (pt_cmpR op_gt (pe_callB call_len (by rfl) T.b_len (by decide +kernel) (pa_cons (pv 2) pa_nil)) pe_int (nomark _))))))) (pss_one (ps_ret pe_bl)) pss_nil)
    (pss_cons (ps_asg (pe_lc (own := [("_law_word", 7)]) (g := gName 7) (by rfl) sc_law_is_class.nd (pi_list (pe_slice sl_list (pv 0) (po_some pe_int) (po_some pe_int))) (blkOk_by (N := n_law_is_class) (sc := defScope d_law_is_class) (own := [("_law_word", 7)]) (by decide +kernel)) (fun _ _ _ _ _ => (pg_name (i := 7) sc_law_is_class.nd rfl (Or.inl rfl) (.inr rfl))) (fun _ _ _ _ _ => pts_nil) (fun _ _ _ _ _ => (pe_call G_law_number (hr.mono (by decide)) (by rfl) T.g_law_number k_law_number b_law_number .nil pass0 (pa_cons (pv 7) pa_nil)))) (pg_unl rfl (pgs_cons (pg_name (i := 4) sc_law_is_class.nd rfl (Or.inl rfl)) (pgs_cons (pg_name (i := 5) sc_law_is_class.nd rfl (Or.inl rfl)) (pgs_cons (pg_name (i := 6) sc_law_is_class.nd rfl (Or.inl rfl)) pgs_nil)))))
    (pss_cons (ps_setLc (i := 3) (own := [("_law_word", 7)]) (g := gName 7) (by rfl) sc_law_is_class.nd rfl rfl (sw_true rfl rfl rfl (by decide +kernel)) (pi_list (pe_slice sl_list (pv 0) (po_some pe_int) po_none)) (blkOk_by (N := n_law_is_class) (sc := defScope d_law_is_class) (own := [("_law_word", 7)]) (by decide +kernel)) (fun _ _ _ _ _ => (pg_name (i := 7) sc_law_is_class.nd rfl (Or.inl rfl) (.inr rfl))) (fun _ _ _ _ _ => pts_nil) (fun _ _ _ _ _ => (pe_call G_law_number (hr.mono (by decide)) (by rfl) T.g_law_number k_law_number b_law_number .nil pass0 (pa_cons (pv 7) pa_nil))))
    (pss_cons (ps_if (PW.pt (pw_or (pt_not (pt_chain op_le op_lt pe_int (pv 4) (pv 1))) (pw_or (pt_cmpR op_gt (pe_op op_add (pv 4) (pe_callB call_len (by rfl) T.b_len (by decide +kernel) (pa_cons (pv 3) pa_nil))) (pv 1) (nomark _)) (pw_or1 (pt_not (pt_val (pe_callB (cr_all rfl) (by rfl) T.b_all (by decide +kernel) (pa_cons (pe_lc (own := [("_law_size", 8)]) (g := gName 8) (by rfl) sc_law_is_class.nd (pi_list (pv 3)) (blkOk_by (N := n_law_is_class) (sc := defScope d_law_is_class) (own := [("_law_size", 8)]) (by decide +kernel)) (fun _ _ _ _ _ => (pg_name (i := 8) sc_law_is_class.nd rfl (Or.inl rfl) (.inr rfl))) (fun _ _ _ _ _ => pts_nil) (fun _ _ _ _ _ => (pe_chain op_lt op_lt pe_int (pv 8) pe_int))) pa_nil)))))))) (pss_one (ps_ret pe_bl)) pss_nil)
    (pss_cons (ps_if (pt_not (pt_val (pe_callB (cr_all rfl) (by rfl) T.b_all (by decide +kernel) (pa_cons (pe_lc (own := [("_law_size", 8), ("_law_later", 9)]) (g := gTup K 2 (gCons (gName 8) (gCons (gName 9) gNil))) (by rfl) sc_law_is_class.nd (RZ.pi_zipA (by rfl) T.b_zip (pa_cons (pv 3) (pa_cons (pe_slice sl_list (pv 3) (po_some pe_int) po_none) pa_nil))) (blkOk_by (N := n_law_is_class) (sc := defScope d_law_is_class) (own := [("_law_size", 8), ("_law_later", 9)]) (by decide +kernel)) (fun _ _ _ _ _ => (pg_tup rfl (pgs_cons (pg_name (i := 8) sc_law_is_class.nd rfl (Or.inl rfl) (.inr rfl)) (pgs_cons (pg_name (i := 9) sc_law_is_class.nd rfl (Or.inl rfl) (.inr rfl)) pgs_nil)))) (fun _ _ _ _ _ => pts_nil) (fun _ _ _ _ _ => (pe_cmpR op_le (pv 9) (pe_op op_mul pe_int (pv 8)) (nomark _)))) pa_nil)))) (pss_one (ps_ret pe_bl)) pss_nil)
    (pss_one (ps_ret (pe_and (pe_chain op_lt op_lt pe_int (pv 5) pe_int) (pe_one (pe_chain op_le op_le (pv 5) (pv 6) (pe_op op_add (pv 5) pe_int))))))))))), ?_⟩
  obtain ⟨W, R, ws, ns, z, rfl, rfl, rfl, hW, hR, hl, hn, hz, q⟩ := h
  refine ⟨_, rfl, _, ws.length, rfl, .inl ⟨_, SqL.of hW, by rw [List.length_map]⟩, _, _, rfl, rfl, _, rfl, ?_⟩
  by_cases h6 : ws.length < 6
  · rw [decide_eq_true (show ((ws.length : Nat) : Int) < 6 by omega)]
    have e : clsOk ws z ns = false := by
      unfold clsOk
      match ws, h6 with
      | [], _ => rfl
      | [_], _ => rfl
      | [_, _], _ => rfl
      | [_, _, _], _ => rfl
      | [_, _, _, _], _ => rfl
      | [_, _, _, _, _], _ => rfl
      | _ :: _ :: _ :: _ :: _ :: _ :: _, h => exact absurd h (by simp)
    rw [e] at q
    exact q _ (Same.refl _)
  · rw [decide_eq_false (show ¬ ((ws.length : Nat) : Int) < 6 by omega)]
    obtain ⟨w0, nm, f, l, m, s0, ss, rfl⟩ : ∃ w0 nm f l m s0 ss, ws = w0 :: nm :: f :: l :: m :: s0 :: ss := by
      match ws, h6 with
      | [], h => exact absurd (by simp) h
      | [_], h => exact absurd (by simp) h
      | [_, _], h => exact absurd (by simp) h
      | [_, _, _], h => exact absurd (by simp) h
      | [_, _, _, _], h => exact absurd (by simp) h
      | [_, _, _, _, _], h => exact absurd (by simp) h
      | a :: b :: c :: d :: e :: f :: g, _ => exact ⟨a, b, c, d, e, f, g, rfl⟩
    have q : ∀ H', Same H H' → Q (.bl (isName nm && (decide (nm ∉ ns) && (decide (ns.length ≤ 3) && (decide (0 ≤ numW f) && (decide (numW f < z) && (decide (numW f + ((s0 :: ss).length : Nat) ≤ z) &&
      (((s0 :: ss).map numW).all in110 && (adj ((s0 :: ss).map numW) && (decide (0 < numW l) && (decide (numW l < 10) && (decide (numW l ≤ numW m) && decide (numW m ≤ numW l + 3))))))))))))) H' := q
    refine ⟨_, rfl, W, _, _, V.str nm, rfl, rfl, SqL.of hW, atI_nat (j := 1) rfl, ?_⟩
    refine ⟨_, rfl, nm, rfl, Nat.le_trans (hz nm (by simp)) (by decide), fun H1 s1 => ⟨_, rfl, ?_⟩⟩
    have hW1 := s1 _ _ hW
    have hR1 := s1 _ _ hR
    cases hnm : isName nm with
    | false =>
      rw [hnm, Bool.false_and] at q
      exact q _ s1
    | true =>
      rw [hnm, Bool.true_and] at q
      refine ⟨_, rfl, W, _, _, V.str nm, rfl, rfl, SqL.of hW1, atI_nat (j := 1) rfl, _, rfl, R, _, rfl, .inl (SqL.of hR1), rfl, flat_strs ns, _, rfl, ?_⟩
      show if inV (.str nm) (ns.map V.str) = true then _ else _
      rw [inV_str]
      by_cases hin : nm ∈ ns
      · rw [decide_eq_true hin]
        rw [decide_eq_false (fun z => z hin), Bool.false_and] at q
        exact q _ s1
      · rw [decide_eq_false hin]
        rw [decide_eq_true hin, Bool.true_and] at q
        refine ⟨_, rfl, _, ns.length, rfl, .inl ⟨_, SqL.of hR1, by rw [List.length_map]⟩, _, _, rfl, rfl, _, rfl, ?_⟩
        by_cases h3 : 3 < ns.length
        · rw [decide_eq_true (show (3 : Int) < ((ns.length : Nat) : Int) by omega)]
          rw [decide_eq_false (show ¬ ns.length ≤ 3 by omega), Bool.false_and] at q
          exact q _ s1
        · rw [decide_eq_false (show ¬ (3 : Int) < ((ns.length : Nat) : Int) by omega)]
          rw [decide_eq_true (show ns.length ≤ 3 by omega), Bool.true_and] at q
          refine ⟨_, rfl, 2, rfl, 5, rfl, W, _, rfl, SqL.of hW1, fun p2 hp2 => ?_⟩
          have e2 : cutV ((w0 :: nm :: f :: l :: m :: s0 :: ss).map V.str) (some 2) (some 5) = [f, l, m].map V.str := cutV_mid _ 2 5
          rw [e2]
          have s2 : Same H1 (upd H1 p2 (.lst ([f, l, m].map V.str))) := same_new hp2
          refine ⟨p2, rfl, ⟨_, SqL.of upd_same⟩, fun D hD => ?_⟩
          refine lc_words (f := fun z => V.int (numW z)) hD upd_same (by show 3 ≤ sizeLine; decide) ?_ ?_
          · intro z H3 Ky Kn hzm s3 ky
            refine ⟨rfl, _, rfl, _, rfl, z, rfl, hz z ?_, ky⟩
            simp only [List.mem_cons, List.not_mem_nil, or_false] at hzm
            rcases hzm with rfl | rfl | rfl <;> simp
          intro H3 s3 hD3
          have hD3 : H3 D = some (.lst [V.int (numW f), V.int (numW l), V.int (numW m)]) := hD3
          refine ⟨D, _, rfl, SqL.of hD3, rfl, _, _, rfl, _, _, rfl, _, _, rfl, rfl, ?_⟩
          have s13 : Same H1 H3 := s2.trans s3
          have hW3 := s13 _ _ hW1
          refine ⟨_, rfl, 5, rfl, W, _, rfl, SqL.of hW3, fun p4 hp4 => ?_⟩
          have e5 : cutV ((w0 :: nm :: f :: l :: m :: s0 :: ss).map V.str) (some 5) none = (s0 :: ss).map V.str := cutV_drop _ 5
          rw [e5]
          have s4 : Same H3 (upd H3 p4 (.lst ((s0 :: ss).map V.str))) := same_new hp4
          have hls : (s0 :: ss).length ≤ 1000 := by
            simp only [List.length_cons] at hl ⊢
            omega
          refine ⟨p4, rfl, ⟨_, SqL.of upd_same⟩, fun D5 hD5 => ?_⟩
          refine lc_words (f := fun z => V.int (numW z)) hD5 upd_same (Nat.le_trans hls (by decide)) ?_ ?_
          · intro z H5 Ky Kn hzm s5 ky
            refine ⟨rfl, _, rfl, _, rfl, z, rfl, hz z ?_, ky⟩
            rcases List.mem_cons.mp hzm with rfl | h
            · simp
            · simp [h]
          intro H5 s5 hD5'
          have hD5' : H5 D5 = some (.lst (((s0 :: ss).map numW).map V.int)) := by
            rw [hD5', List.map_map]
            rfl
          have hl6 : ((s0 :: ss).map numW).length = (s0 :: ss).length := List.length_map _
          have hpos : 0 < ((s0 :: ss).map numW).length := by rw [hl6]; simp
          generalize hns : (s0 :: ss).map numW = sz at hD5' q hl6 hpos
          have s05 : Same H H5 := s1.trans (s13.trans (s4.trans s5))
          -- first
          refine ⟨_, rfl, _, _, rfl, rfl, _, rfl, ?_⟩
          by_cases g1 : 0 ≤ numW f
          · rw [decide_eq_true g1]
            rw [decide_eq_true g1, Bool.true_and] at q
            refine ⟨_, rfl, _, _, rfl, rfl, _, rfl, ?_⟩
            by_cases g2 : numW f < z
            · rw [decide_eq_true g2]
              rw [decide_eq_true g2, Bool.true_and] at q
              refine ⟨_, rfl, _, rfl, _, sz.length, rfl, .inl ⟨_, SqL.of hD5', by rw [List.length_map]⟩, _, _, rfl, rfl, _, rfl, _, _, rfl, rfl, _, rfl, ?_⟩
              by_cases g3 : numW f + ((s0 :: ss).length : Nat) ≤ z
              · rw [decide_eq_false (show ¬ z < numW f + ((sz.length : Nat) : Int) by omega)]
                rw [decide_eq_true g3, Bool.true_and] at q
                refine ⟨_, rfl, D5, rfl, ⟨_, SqL.of hD5'⟩, fun D6 hD6 => ?_⟩
                refine lc_ints (f := fun n => V.bl (in110 n)) hD6 hD5' (by omega) (fun n hn' H6 Ky Kn s6 ky => ?_) (fun H6 s6 hD6' => ?_)
                · refine ⟨rfl, _, rfl, _, _, rfl, rfl, _, rfl, ?_⟩
                  have := ky H6 (Same.refl _)
                  unfold in110 at this
                  by_cases g4 : 1 < n
                  · rw [decide_eq_true g4, Bool.true_and] at this
                    rw [decide_eq_true g4]
                    exact ⟨_, _, rfl, rfl, this⟩
                  · rw [decide_eq_false g4, Bool.false_and] at this
                    rw [decide_eq_false g4]
                    exact this
                have hD6' : H6 D6 = some (.lst ((sz.map in110).map V.bl)) := by
                  rw [hD6', List.map_map]
                  rfl
                refine ⟨D6, _, rfl, SqL.of hD6', _, rfl, ?_⟩
                rw [all_map]
                have s06 := s05.trans s6
                cases hall : sz.all in110 with
                | false =>
                  rw [hall, Bool.false_and] at q
                  exact q _ s06
                | true =>
                  rw [hall, Bool.true_and] at q
                  have hD56 := s6 _ _ hD5'
                  refine ⟨_, rfl, _, rfl, 1, rfl, D5, _, rfl, SqL.of hD56, fun p7 hp7 => ?_⟩
                  rw [show (some 1 : Option Int) = some ((1 : Nat) : Int) from rfl, cutV_drop, ← List.map_drop]
                  have s7 : Same H6 (upd H6 p7 (.lst ((sz.drop 1).map V.int))) := same_new hp7
                  refine ⟨D5, p7, _, _, rfl, .inl ⟨SqL.of (s7 _ _ hD56), SqL.of upd_same, fun D8 hD8 => ?_⟩⟩
                  refine lc_fm (walk_zip (n := min sz.length (sz.drop 1).length) (by rw [List.length_map, List.length_map])) (fun i => some (V.bl (decide ((sz.drop 1)[i]?.getD 0 ≤ 2 * sz[i]?.getD 0)))) hD8 (by have : min sz.length (sz.drop 1).length ≤ sz.length := Nat.min_le_left _ _; rw [sizeLine_eq]; omega)
                    (fun H8 s8 => ⟨SqL.of (s8 _ _ (s7 _ _ hD56)), SqL.of (s8 _ _ upd_same)⟩) ?_ ?_
                  · rintro i x H8 H9 Ky Kn hi s8 ⟨Tt, x1, y1, rfl, hT, rfl, e3, e4⟩ ky _
                    have e3 : (sz.map V.int)[i]? = some x1 := e3
                    have e4 : ((sz.drop 1).map V.int)[i]? = some y1 := e4
                    rw [List.getElem?_map] at e3 e4
                    obtain ⟨a, ha, rfl⟩ := Option.map_eq_some_iff.mp e3
                    obtain ⟨b, hb, rfl⟩ := Option.map_eq_some_iff.mp e4
                    refine ⟨Tt, _, rfl, SqT.of upd_same, rfl, _, _, rfl, _, _, rfl, rfl, rfl, ?_⟩
                    refine ⟨_, rfl, _, rfl, _, _, rfl, rfl, .inl ⟨by decide, by decide⟩, _, _, rfl, rfl, ky _ _ ?_ (same_new hT)⟩
                    rw [ha, hb]
                    rfl
                  · intro H8 s8 hD8'
                    have hD9 : H8 D8 = some (.lst (((List.range (min sz.length (sz.drop 1).length)).map fun i => decide ((sz.drop 1)[i]?.getD 0 ≤ 2 * sz[i]?.getD 0)).map V.bl)) := by
                      rw [hD8', fm_some, List.map_map]
                      rfl
                    refine ⟨D8, _, rfl, SqL.of hD9, _, rfl, ?_⟩
                    have e5 : ((List.range (min sz.length (sz.drop 1).length)).map fun i => decide ((sz.drop 1)[i]?.getD 0 ≤ 2 * sz[i]?.getD 0)).all id = adj sz := by rw [all_map, adj_zip]
                    rw [e5]
                    have s08 := s06.trans (s7.trans s8)
                    cases hadj : adj sz with
                    | false =>
                      rw [hadj, Bool.false_and] at q
                      exact q _ s08
                    | true =>
                      rw [hadj, Bool.true_and] at q
                      have q := q _ s08
                      refine ⟨_, rfl, _, _, rfl, rfl, _, rfl, ?_⟩
                      by_cases k1 : 0 < numW l
                      · rw [decide_eq_true k1, Bool.true_and] at q
                        rw [decide_eq_true k1]
                        refine ⟨_, _, rfl, rfl, _, rfl, ?_⟩
                        by_cases k2 : numW l < 10
                        · rw [decide_eq_true k2, Bool.true_and] at q
                          rw [decide_eq_true k2]
                          refine ⟨_, rfl, _, rfl, _, _, rfl, rfl, _, rfl, ?_⟩
                          by_cases k3 : numW l ≤ numW m
                          · rw [decide_eq_true k3, Bool.true_and] at q
                            rw [decide_eq_true k3]
                            exact ⟨_, rfl, _, _, rfl, rfl, _, _, rfl, rfl, q⟩
                          · rw [decide_eq_false k3, Bool.false_and] at q
                            rw [decide_eq_false k3]
                            exact q
                        · rw [decide_eq_false k2, Bool.false_and] at q
                          rw [decide_eq_false k2]
                          exact q
                      · rw [decide_eq_false k1, Bool.false_and] at q
                        rw [decide_eq_false k1]
                        exact ⟨_, rfl, q⟩
              · rw [decide_eq_true (show z < numW f + ((sz.length : Nat) : Int) by omega)]
                rw [decide_eq_false g3, Bool.false_and] at q
                exact q _ s05
            · rw [decide_eq_false g2]
              rw [decide_eq_false g2, Bool.false_and] at q
              exact q _ s05
          · rw [decide_eq_false g1]
            rw [decide_eq_false g1, Bool.false_and] at q
            exact ⟨_, rfl, q _ s05⟩
end
end SK

set_option maxHeartbeats 4000000
namespace SL
open PySem PySem.Spec PyProof.Rows L2
def spFirstW : Sp := sp1 fun a H Q _ => ∃ (L : Addr) (ls : List Str), a = .ref L ∧ H L = some (.lst (ls.map V.str)) ∧ ls.length ≤ 900 ∧ (∀ z ∈ ls, z.length ≤ 600) ∧ ∀ H', Same H H' → Q (.int (fwNum ls : Nat)) H'
/-- the law's table of sorts -/
def BehAt (H : Hp) (d : Addr) : Prop := ∀ s, sortOk s → ∃ b, DGet H d (.str s) (some (.ref b)) ∧ H b = some (.lst ((behind s).map V.str))
theorem BehAt.same {H H' : Hp} {d : Addr} (h : BehAt H d) (s : Same H H') : BehAt H' d := fun z hz => by
  obtain ⟨b, h1, h2⟩ := h z hz
  refine ⟨b, ?_, s _ _ h2⟩
  rcases h1 with ⟨kvs, k, e, e2, e3⟩ | ⟨kvs, k, c, e, e2, _⟩
  · refine .inl ⟨kvs, k, ?_, e2, e3⟩
    rcases e with e | ⟨o, e⟩
    · exact .inl (s _ _ e)
    · exact .inr ⟨o, s _ _ e⟩
  · cases e2
theorem beh_of {H : Hp} {d b1 b2 b3 b4 b5 : Addr} (h : H d = some (.dK [(.inr "", .ref b1), (.inr "zooms", .ref b2), (.inr "class", .ref b3), (.inr "far", .ref b4), (.inr "beside", .ref b5)]))
    (h1 : H b1 = some (.lst [.str "zooms"])) (h2 : H b2 = some (.lst [.str "class"])) (h3 : H b3 = some (.lst [.str "class", .str "beside", .str "far"])) (h4 : H b4 = some (.lst [.str "far"])) (h5 : H b5 = some (.lst [.str "beside", .str "far"])) : BehAt H d := by
  intro s hs
  rcases hs with rfl | rfl | rfl | rfl | rfl
  · exact ⟨b1, DGet.k (k := .inr "") h, h1⟩
  · exact ⟨b2, DGet.k (k := .inr "zooms") h, h2⟩
  · exact ⟨b3, DGet.k (k := .inr "class") h, h3⟩
  · exact ⟨b5, DGet.k (k := .inr "beside") h, h5⟩
  · exact ⟨b4, DGet.k (k := .inr "far") h, h4⟩
theorem fwL_none {s : FW} {n : Nat} {z : Str} {zs : List Str} (h : fwStep s (Txt.split z " ") = none) : fwL s n (z :: zs) = .error (n + 1) := by
  show (match fwStep s (Txt.split z " ") with | none => Except.error (n + 1) | some s' => fwL s' (n + 1) zs) = _
  rw [h]
theorem fwL_some {s s' : FW} {n : Nat} {z : Str} {zs : List Str} (h : fwStep s (Txt.split z " ") = some s') : fwL s n (z :: zs) = fwL s' (n + 1) zs := by
  show (match fwStep s (Txt.split z " ") with | none => Except.error (n + 1) | some s' => fwL s' (n + 1) zs) = _
  rw [h]
theorem decVI (n k : Nat) : decide (V.int (n : Int) = V.int (k : Int)) = decide (n = k) := decide_eq_decide.mpr ⟨fun z => Int.ofNat.inj (V.int.inj z), fun z => by rw [z]⟩
theorem decVS (a b : Str) : decide (V.str a = V.str b) = decide (a = b) := decide_eq_decide.mpr ⟨fun z => V.str.inj z, fun z => congrArg _ z⟩
/-- what the walk keeps -/
structure FS (L d R A : Addr) (ls : List Str) (i : Nat) (H0 H : Hp) (s : FW) : Prop where
  sm : Same H0 H
  ro : H R = some (.lst (s.rows.map V.str))
  ah : H A = some (.tup (tupOf s.ahead))
  so : sortOk s.sort
  ln : s.rows.length ≤ i
  rd : fwL fw0 0 ls = fwL s i (ls.drop i)
end SL
namespace SK
open PySem PySem.Spec PyProof.Rows L2 SL
section
variable {w : World} {K : PySem.W.Frag} {mg : Str → Option Value} {base : Heap}
abbrev n_law_first_wrong : List Str := ["_law_lines", "_law_behind", "_law_sort", "_law_zooms", "_law_rows", "_law_ahead", "_law_at", "_law_line", "_law_words", "_law_is_right"]
theorem sc_law_first_wrong : FnScope n_law_first_wrong ["_law_lines"] (defScope d_law_first_wrong) := ⟨rfl, rfl, rfl, by decide +kernel, rfl, by decide +kernel, by decide +kernel⟩
theorem ok_law_first_wrong (T : Top w K mg) : Has prg w K mg base CX0 3 (He.ga K "_law_first_wrong") ["_law_lines"] spFirstW := by
  obtain ⟨fd, F⟩ := T.F_law_first_wrong
  obtain ⟨fd_law_number, G_law_number, b_law_number, k_law_number⟩ := ok_law_number (base := base) T
  obtain ⟨fd_law_is_class, G_law_is_class, b_law_is_class, k_law_is_class⟩ := ok_law_is_class (base := base) T
  obtain ⟨fd_law_is_pair, G_law_is_pair, b_law_is_pair, k_law_is_pair⟩ := ok_law_is_pair (base := base) T
  obtain ⟨fd_law_two, G_law_two, b_law_two, k_law_two⟩ := ok_law_two (base := base) T
  refine ⟨fd, F.ok (k := 2) sc_law_first_wrong (fun _ _ _ _ h => sp1_len h) (fun cdv A outer s H vs Q E hr h => ?_), F.bindsN (fun _ _ _ _ _ _ us hl => match us, hl with | [_], _ => rfl), F.kp⟩
  obtain ⟨v0, rfl, h⟩ := h
  refine ⟨_, PSs.nox (pss_cons (ps_asg (pe_tup (pa_cons pe_str (pa_cons pe_int (pa_cons (pe_lst pa_nil) (pa_cons (pe_tup pa_nil) pa_nil))))) (pg_tup rfl (pgs_cons (pg_name (i := 2) sc_law_first_wrong.nd rfl (Or.inl rfl)) (pgs_cons (pg_name (i := 3) sc_law_first_wrong.nd rfl (Or.inl rfl)) (pgs_cons (pg_name (i := 4) sc_law_first_wrong.nd rfl (Or.inl rfl)) (pgs_cons (pg_name (i := 5) sc_law_first_wrong.nd rfl (Or.inl rfl)) pgs_nil))))))
    (pss_cons (ps_set (i := 1) sc_law_first_wrong.nd rfl (Or.inl rfl) (pe_disp (pps_cons pe_str (pe_lst (pa_cons pe_str pa_nil)) (pps_cons pe_str (pe_lst (pa_cons pe_str pa_nil)) (pps_cons pe_str (pe_lst (pa_cons pe_str (pa_cons pe_str (pa_cons pe_str pa_nil)))) (pps_cons pe_str (pe_lst (pa_cons pe_str pa_nil)) pps_nil)))) (by rfl) (by rfl) (fun z => by cases z) (by decide)))
    (pss_cons (ps_dput (hu_of hr) (pv 1) pe_str (pe_lst (pa_cons pe_str (pa_cons pe_str pa_nil))) rfl)
    (pss_cons (ps_for PassesOwn.never rfl (pi_enum (by rfl) T.b_enumerate (pa_cons (pv 0) pa_nil)) (pg_tup rfl (pgs_cons (pg_name (i := 6) sc_law_first_wrong.nd rfl (Or.inl rfl)) (pgs_cons (pg_name (i := 7) sc_law_first_wrong.nd rfl (Or.inl rfl)) pgs_nil))) (pss_cons (ps_set (i := 8) sc_law_first_wrong.nd rfl (Or.inl rfl) (pe_split (pv 7) pe_str))
    (pss_cons (ps_if (pt_cmpR op_notIn_seq (pe_ix ix_list (pv 8) pe_int (fun _ _ => rfl)) (pe_dget (hu_of hr) (pv 1) (pv 2) (fun _ _ => rfl)) (by rfl)) (pss_one (ps_ret (pe_op op_add (pv 6) pe_int))) pss_nil)
    (pss_cons (ps_set (i := 5) sc_law_first_wrong.nd rfl (Or.inl rfl) (pe_ifExp (pt_cmpR op_eq (pe_ix ix_list (pv 8) pe_int (fun _ _ => rfl)) (pv 2) (nomark _)) (pv 5) (pe_tup pa_nil)))
    (pss_cons (ps_par (i := 2) (j := 9) (by rfl) sc_law_first_wrong.nd rfl rfl (by decide) rfl rfl (pa_cons (pe_ix ix_list (pv 8) pe_int (fun _ _ => rfl)) (pa_cons pe_bl pa_nil)) (by rfl))
    (pss_cons (ps_if (pt_cmpR op_eq (pv 2) pe_str (nomark _)) (pss_cons (ps_set (i := 3) sc_law_first_wrong.nd rfl (Or.inl rfl) (pe_ifExp (pt_cmpR op_eq (pe_callB call_len (by rfl) T.b_len (by decide +kernel) (pa_cons (pv 8) pa_nil)) pe_int (nomark _)) (pe_call G_law_number (hr.mono (by decide)) (by rfl) T.g_law_number k_law_number b_law_number .nil pass0 (pa_cons (pe_ix ix_list (pv 8) pe_int (fun _ _ => rfl)) pa_nil)) pe_int))
    (pss_one (ps_set (i := 9) sc_law_first_wrong.nd rfl (Or.inl rfl) (pe_chain op_lt op_lt pe_int (pv 3) pe_int)))) (pss_one (ps_if (pt_cmpR op_eq (pv 2) pe_str (nomark _)) (pss_cons (ps_set (i := 9) sc_law_first_wrong.nd rfl (Or.inl rfl) (pe_call G_law_is_class (hr.mono (by decide)) (by rfl) T.g_law_is_class k_law_is_class b_law_is_class .nil pass0 (pa_cons (pv 8) (pa_cons (pv 3) (pa_cons (pv 4) pa_nil)))))
    (pss_one (ps_set (i := 4) sc_law_first_wrong.nd rfl (Or.inl rfl) (pe_op op_cat (pv 4) (pe_slice sl_list (pv 8) (po_some pe_int) (po_some pe_int)))))) (pss_cons (ps_set (i := 9) sc_law_first_wrong.nd rfl (Or.inl rfl) (pe_and (pe_call G_law_is_pair (hr.mono (by decide)) (by rfl) T.g_law_is_pair k_law_is_pair b_law_is_pair .nil pass0 (pa_cons (pv 8) (pa_cons (pv 4) (pa_cons (pv 5) pa_nil)))) (pe_one (pe_cmpR op_eq (pe_callB call_len (by rfl) T.b_len (by decide +kernel) (pa_cons (pv 8) pa_nil)) (pe_ifExp (pt_cmpR op_eq (pv 2) pe_str (nomark _)) pe_int pe_int) (nomark _)))))
    (pss_cons (ps_set (i := 9) sc_law_first_wrong.nd rfl (Or.inl rfl) (pe_and (pv 9) (pe_one (pe_or (pe_cmpR op_eq (pv 2) pe_str (nomark _)) (pe_one (pe_chain op_lt op_lt pe_int (pe_call G_law_number (hr.mono (by decide)) (by rfl) T.g_law_number k_law_number b_law_number .nil pass0 (pa_cons (pe_ix ix_list (pv 8) pe_int (fun _ _ => rfl)) pa_nil)) pe_int))))))
    (pss_one (ps_set (i := 5) sc_law_first_wrong.nd rfl (Or.inl rfl) (pe_ifExp (pt_val (pv 9)) (pe_call G_law_two (hr.mono (by decide)) (by rfl) T.g_law_two k_law_two b_law_two .nil pass0 (pa_cons (pe_slice sl_list (pv 8) (po_some pe_int) (po_some pe_int)) (pa_cons (pv 4) pa_nil))) (pe_tup pa_nil)))))))))
    (pss_one (ps_if (pt_not (pt_val (pv 9))) (pss_one (ps_ret (pe_op op_add (pv 6) pe_int))) pss_nil))))))))
    (pss_one (ps_ret (pe_ifExp (pt_cmpR (op_eqNil hr.units) (pv 4) (pe_lst pa_nil) (nomark _)) (pe_op op_add (pe_callB call_len (by rfl) T.b_len (by decide +kernel) (pa_cons (pv 0) pa_nil)) pe_int) pe_int))))))), ?_⟩
  obtain ⟨L, ls, rfl, hL, hl, hz, q⟩ := h
  refine ⟨(by show 0 ≤ sizeLine; decide), fun R0 hR0 => ⟨(by show 0 ≤ sizeLine; decide), fun A0 hA0 => ⟨(by show 4 ≤ sizeLine; decide), fun t0 ht0 => ?_⟩⟩⟩
  have s1 := ((same_new (o := .lst []) hR0).trans (same_new (o := .tup []) hA0)).trans (same_new (o := .tup [V.str "", V.int 0, V.ref R0, V.ref A0]) ht0)
  have hR1 := (same_new (o := .tup [V.str "", V.int 0, V.ref R0, V.ref A0]) ht0) _ _ ((same_new (o := .tup []) hA0) _ _ (show upd H R0 (.lst []) R0 = some (.lst []) from upd_same))
  have hA1 := (same_new (o := .tup [V.str "", V.int 0, V.ref R0, V.ref A0]) ht0) _ _ (show upd (upd H R0 (.lst [])) A0 (.tup []) A0 = some (.tup []) from upd_same)
  refine ⟨t0, _, rfl, SqT.of upd_same, rfl, _, _, rfl, _, _, rfl, _, _, rfl, _, _, rfl, rfl, ?_⟩
  generalize upd (upd (upd H R0 (.lst [])) A0 (.tup [])) t0 (.tup [V.str "", V.int 0, V.ref R0, V.ref A0]) = H1 at s1 hR1 hA1 ⊢
  refine fun d hd => ?_
  have sd := same_new (o := .dK []) hd
  have hd1 : upd H1 d (.dK []) d = some (.dK []) := upd_same
  generalize upd H1 d (.dK []) = H2 at sd hd1 ⊢
  refine ⟨(by show 1 ≤ sizeLine; decide), fun b1 hb1 => ⟨(by show 1 ≤ sizeLine; decide), fun b2 hb2 => ⟨(by show 3 ≤ sizeLine; decide), fun b3 hb3 => ⟨(by show 1 ≤ sizeLine; decide), fun b4 hb4 => ?_⟩⟩⟩⟩
  have q1 := same_new (o := .lst [V.str "zooms"]) hb1
  have q2 := same_new (o := .lst [V.str "class"]) hb2
  have q3 := same_new (o := .lst [V.str "class", V.str "beside", V.str "far"]) hb3
  have q4 := same_new (o := .lst [V.str "far"]) hb4
  have e1 := q4 _ _ (q3 _ _ (q2 _ _ (show upd H2 b1 (.lst [V.str "zooms"]) b1 = some (.lst [V.str "zooms"]) from upd_same)))
  have e2 := q4 _ _ (q3 _ _ (show upd (upd H2 b1 (.lst [V.str "zooms"])) b2 (.lst [V.str "class"]) b2 = some (.lst [V.str "class"]) from upd_same))
  have e3 := q4 _ _ (show upd (upd (upd H2 b1 (.lst [V.str "zooms"])) b2 (.lst [V.str "class"])) b3 (.lst [V.str "class", V.str "beside", V.str "far"]) b3 = some (.lst [V.str "class", V.str "beside", V.str "far"]) from upd_same)
  have e4 : upd (upd (upd (upd H2 b1 (.lst [V.str "zooms"])) b2 (.lst [V.str "class"])) b3 (.lst [V.str "class", V.str "beside", V.str "far"])) b4 (.lst [V.str "far"]) b4 = some (.lst [V.str "far"]) := upd_same
  have sq := ((q1.trans q2).trans q3).trans q4
  generalize upd (upd (upd (upd H2 b1 (.lst [V.str "zooms"])) b2 (.lst [V.str "class"])) b3 (.lst [V.str "class", V.str "beside", V.str "far"])) b4 (.lst [V.str "far"]) = H3 at e1 e2 e3 e4 sq ⊢
  have hd3 := sq _ _ hd1
  have n1 : b1 ≠ d := fun z => by rw [z, hd3] at e1; cases e1
  have n2 : b2 ≠ d := fun z => by rw [z, hd3] at e2; cases e2
  have n3 : b3 ≠ d := fun z => by rw [z, hd3] at e3; cases e3
  have n4 : b4 ≠ d := fun z => by rw [z, hd3] at e4; cases e4
  refine ⟨hd3, [(.inr "", .ref b1), (.inr "zooms", .ref b2), (.inr "class", .ref b3), (.inr "far", .ref b4)], rfl, (by show 4 ≤ 15; decide), ?_⟩
  refine ⟨(by show 2 ≤ sizeLine; decide), fun b5 hb5 => ⟨_, rfl, d, _, rfl, DPut.k (k := .inr "beside") (kvs := [(.inr "", .ref b1), (.inr "zooms", .ref b2), (.inr "class", .ref b3), (.inr "far", .ref b4)]) ?_ (by show 4 < sizeLine; decide), ?_⟩⟩
  · rw [upd_ne (ne_of_none (show upd H3 d _ d = some _ from upd_same) hb5), upd_same]
    rfl
  have n5 : b5 ≠ d := fun z => by rw [z, upd_same] at hb5; cases hb5
  have f5 : H3 b5 = none := by rw [upd_ne n5] at hb5; exact hb5
  obtain ⟨H4, hH4⟩ : ∃ H4, H4 = upd (upd (upd H3 d (.dK (mergeK [] [(.inr "", .ref b1), (.inr "zooms", .ref b2), (.inr "class", .ref b3), (.inr "far", .ref b4)]))) b5 (.lst [V.str "beside", V.str "far"])) d (.dK (putK [(.inr "", .ref b1), (.inr "zooms", .ref b2), (.inr "class", .ref b3), (.inr "far", .ref b4)] (.inr "beside") (.ref b5))) := ⟨_, rfl⟩
  have keep : ∀ b o, b ≠ d → b ≠ b5 → H3 b = some o → H4 b = some o := fun b o h1 h2 h3 => by
    rw [hH4, upd_ne h1, upd_ne h2, upd_ne h1]
    exact h3
  have bh : BehAt H4 d := by
    refine beh_of ?_ (keep _ _ n1 (ne_of_none e1 f5) e1) (keep _ _ n2 (ne_of_none e2 f5) e2) (keep _ _ n3 (ne_of_none e3 f5) e3) (keep _ _ n4 (ne_of_none e4 f5) e4) (b5 := b5) ?_
    · rw [hH4, upd_same]
      rfl
    · rw [hH4, upd_ne n5, upd_same]
  have sm14 : Same H1 H4 := fun b o hb => keep b o (ne_of_none hb hd) (ne_of_none (sq _ _ (sd _ _ hb)) f5) (sq _ _ (sd _ _ hb))
  rw [← hH4]
  clear hH4 keep
  have s4 := s1.trans sm14
  have hL4 := s4 _ _ hL
  -- the walk
  refine ⟨_, rfl, L, _, rfl, SqL.of hL4, ?_⟩
  refine for_it (walk_enum (K := K) (a := L) (xs := ls.map V.str)) (fun i σ H5 => ∃ (s : FW) (R A : Addr) (o6 o7 o8 o9 : Option V), σ = [some (.ref L), some (.ref d), some (.str s.sort), some (.int s.zooms), some (.ref R), some (.ref A), o6, o7, o8, o9] ∧ FS L d R A ls i H4 H5 s)
    ⟨fw0, R0, A0, _, _, _, _, rfl, ⟨Same.refl _, sm14 _ _ hR1, sm14 _ _ hA1, .inl rfl, Nat.le_refl _, rfl⟩⟩ (fun _ _ _ _ ⟨_, _, _, _, _, _, _, _, c⟩ => SqL.of (c.sm _ _ hL4)) ?_ ?_
  · rintro i y σ H5 H6 hi ⟨s, R, A, o6, o7, o8, o9, rfl, c⟩ ⟨Tt, x1, y1, rfl, hT, rfl, e1, e2⟩
    cases e1
    have e2 : (ls.map V.str)[i]? = some y1 := e2
    rw [List.getElem?_map] at e2
    obtain ⟨z, hzl, rfl⟩ := Option.map_eq_some_iff.mp e2
    rw [List.length_map] at hi
    have hdrop : ls.drop i = z :: ls.drop (i + 1) := by
      rw [List.drop_eq_getElem_cons hi]
      rw [List.getElem?_eq_getElem hi] at hzl
      rw [Option.some.inj hzl]
    have hzz := hz z (List.mem_of_getElem? hzl)
    have rd := c.rd
    rw [hdrop] at rd
    have s6 := c.sm.trans (same_new (o := .tup [V.int i, V.str z]) hT)
    have hR6 := same_new (o := .tup [V.int i, V.str z]) hT _ _ c.ro
    have hA6 := same_new (o := .tup [V.int i, V.str z]) hT _ _ c.ah
    refine ⟨Tt, _, rfl, SqT.of upd_same, rfl, _, _, rfl, _, _, rfl, rfl, ?_⟩
    generalize upd H5 Tt (.tup [V.int i, V.str z]) = H6 at s6 hR6 hA6 ⊢
    -- words
    obtain ⟨b1, b2, b3⟩ := split_bounds (y := " ") (s := 32) (by decide +kernel) (by decide +kernel) z
    refine ⟨_, rfl, ⟨_, rfl⟩, _, _, rfl, rfl, by decide, Nat.le_trans (show z.length + 2 ≤ 1000 by omega) (by decide), fun W hW => ?_⟩
    have hwl : (Txt.split z " ").length ≤ 700 := by omega
    have hwz : ∀ p ∈ Txt.split z " ", p.length ≤ 640 := fun p hp => Nat.le_trans (b3 p hp) (by omega)
    have bad : fwStep s (Txt.split z " ") = none → ∀ H', Same H H' → Q (.int ((i : Int) + 1)) H' := fun e H' s' => by
      have := q H' s'
      unfold fwNum at this
      rw [rd, fwL_none e] at this
      exact this
    have good : ∀ s', fwStep s (Txt.split z " ") = some s' → fwL fw0 0 ls = fwL s' (i + 1) (ls.drop (i + 1)) := fun s' e => by rw [rd, fwL_some e]
    generalize Txt.split z " " = ws at hW b2 hwl hwz bad good ⊢
    obtain ⟨w0, r, rfl⟩ := List.exists_cons_of_ne_nil b2
    have s7 : Same H6 (upd H6 W (.lst ((w0 :: r).map V.str))) := same_new hW
    have hW7 : upd H6 W (.lst ((w0 :: r).map V.str)) W = some (.lst ((w0 :: r).map V.str)) := upd_same
    generalize upd H6 W (.lst ((w0 :: r).map V.str)) = H7 at s7 hW7 ⊢
    have s47 := s6.trans s7
    have hR7 := s7 _ _ hR6
    have hA7 := s7 _ _ hA6
    obtain ⟨bb, bd, bt⟩ := (bh.same s47) s.sort c.so
    refine ⟨_, rfl, W, _, _, V.str w0, rfl, rfl, SqL.of hW7, atI_nat (j := 0) rfl, _, rfl, _, rfl, d, _, rfl, bd, bb, _, rfl, .inl (SqL.of bt), rfl, flat_strs _, _, rfl, ?_⟩
    show if (!inV (.str w0) ((behind s.sort).map V.str)) = true then _ else _
    rw [inV_str]
    by_cases hb : w0 ∈ behind s.sort
    case neg =>
      rw [decide_eq_false hb]
      exact ⟨_, rfl, _, _, rfl, rfl, bad (if_neg hb) _ (s4.trans s47)⟩
    rw [decide_eq_true hb]
    have hF : fwStep s (w0 :: r) = (if w0 = "zooms" then (if 0 < zmOf (w0 :: r) ∧ zmOf (w0 :: r) < 6 then some ⟨w0, zmOf (w0 :: r), s.rows, if w0 = s.sort then s.ahead else none⟩ else none)
        else if w0 = "class" then (if clsOk (w0 :: r) s.zooms s.rows = true then some ⟨w0, s.zooms, s.rows ++ r.take 1, if w0 = s.sort then s.ahead else none⟩ else none)
        else if w0 = "beside" then (if isPair s.rows (w0 :: r) (if w0 = s.sort then s.ahead else none) = true ∧ (w0 :: r).length = 3 then some ⟨w0, s.zooms, s.rows, pairIn s.rows (w0 :: r)⟩ else none)
        else (if (isPair s.rows (w0 :: r) (if w0 = s.sort then s.ahead else none) = true ∧ (w0 :: r).length = 4) ∧ farNum (w0 :: r) = true then some ⟨w0, s.zooms, s.rows, pairIn s.rows (w0 :: r)⟩ else none)) := if_pos hb
    -- ahead
    refine ⟨_, rfl, W, _, _, V.str w0, rfl, rfl, SqL.of hW7, atI_nat (j := 0) rfl, _, rfl, rfl, _, rfl, ?_⟩
    have ed : decide (V.str w0 = V.str s.sort) = decide (w0 = s.sort) := decide_eq_decide.mpr ⟨fun z => V.str.inj z, fun z => congrArg _ z⟩
    rw [ed]
    generalize hah : (if w0 = s.sort then s.ahead else none) = ah at hF
    by_cases hs : w0 = s.sort
    case' pos =>
      rw [decide_eq_true hs]
      rw [if_pos hs] at hah
      refine ⟨_, rfl, ?_⟩
      obtain ⟨H8, e8⟩ : ∃ H8, H8 = H7 := ⟨_, rfl⟩
      obtain ⟨A8, a8⟩ : ∃ A8, A8 = A := ⟨_, rfl⟩
      have s8 : Same H7 H8 := by rw [e8]; exact Same.refl _
      have hA8 : H8 A8 = some (.tup (tupOf ah)) := by rw [← hah, e8, a8]; exact hA7
      rw [← e8]
      have hrA : [some (V.ref L), some (V.ref d), some (V.str s.sort), some (V.int s.zooms), some (V.ref R), some (V.ref A), o6, o7, o8, o9] = [some (V.ref L), some (V.ref d), some (V.str s.sort), some (V.int s.zooms), some (V.ref R), some (V.ref A8), o6, o7, o8, o9] := by rw [a8]
      show gName 5 (V.ref A) _ _ _
      rw [← a8]
    case' neg =>
      rw [decide_eq_false hs]
      rw [if_neg hs] at hah
      refine ⟨(by show 0 ≤ sizeLine; decide), fun A8 hA8' => ?_⟩
      have s8 : Same H7 (upd H7 A8 (.tup [])) := same_new hA8'
      have hA8 : upd H7 A8 (.tup []) A8 = some (.tup (tupOf ah)) := by rw [← hah]; exact upd_same
      generalize upd H7 A8 (.tup []) = H8 at s8 hA8 ⊢
    all_goals
      have hW8 := s8 _ _ hW7
      have hR8 := s8 _ _ hR7
      have s48 := s47.trans s8
      have hln := c.ln
      refine ⟨_, rfl, W, _, _, V.str w0, rfl, rfl, SqL.of hW8, atI_nat (j := 0) rfl, _, _, rfl, _, rfl, rfl, _, rfl, ?_⟩
      rw [decVS]
      by_cases hz0 : w0 = "zooms"
      · rw [decide_eq_true hz0]
        rw [if_pos hz0] at hF
        refine ⟨_, rfl, _, (w0 :: r).length, rfl, .inl ⟨_, SqL.of hW8, by rw [List.length_map]⟩, rfl, _, rfl, ?_⟩
        rw [show (2 : Int) = ((2 : Nat) : Int) from rfl, decVI]
        by_cases h2 : (w0 :: r).length = 2
        · rw [decide_eq_true h2]
          obtain ⟨a, rfl⟩ : ∃ a, r = [a] := by
            match r, h2 with
            | [], h => exact absurd h (by simp)
            | [a], _ => exact ⟨a, rfl⟩
            | _ :: _ :: _, h => exact absurd h (by simp)
          refine ⟨_, rfl, W, _, _, V.str a, rfl, rfl, SqL.of hW8, atI_nat (j := 1) rfl, _, rfl, a, rfl, hwz a (by simp), fun H9 s9 => ?_⟩
          have hF : fwStep s [w0, a] = (if 0 < numW a ∧ numW a < 6 then some ⟨w0, numW a, s.rows, ah⟩ else none) := hF
          generalize numW a = zm at hF ⊢
          refine ⟨_, rfl, _, _, rfl, rfl, _, rfl, ?_⟩
          by_cases g1 : 0 < zm
          · rw [decide_eq_true g1]
            refine ⟨_, _, rfl, rfl, _, rfl, _, rfl, ?_⟩
            by_cases g2 : zm < 6
            · rw [decide_eq_true g2]
              rw [if_pos ⟨g1, g2⟩] at hF
              exact ⟨⟨w0, zm, s.rows, ah⟩, R, A8, _, _, _, _, rfl, ⟨s48.trans s9, s9 _ _ hR8, s9 _ _ hA8, behind_ok hb, Nat.le_succ_of_le hln, good _ hF⟩⟩
            · rw [decide_eq_false g2]
              rw [if_neg (fun z => g2 z.2)] at hF
              exact ⟨_, rfl, _, _, rfl, rfl, bad hF _ (s4.trans (s48.trans s9))⟩
          · rw [decide_eq_false g1]
            rw [if_neg (fun z => g1 z.1)] at hF
            exact ⟨_, rfl, _, rfl, _, rfl, _, _, rfl, rfl, bad hF _ (s4.trans (s48.trans s9))⟩
        · rw [decide_eq_false h2]
          have ez : zmOf (w0 :: r) = 0 := by
            unfold zmOf
            split
            · rename_i e
              rw [e] at h2
              exact absurd rfl h2
            · rfl
          rw [ez, if_neg (by omega)] at hF
          exact ⟨_, rfl, _, _, rfl, rfl, _, rfl, _, rfl, _, rfl, _, rfl, _, _, rfl, rfl, bad hF _ (s4.trans s48)⟩
      rw [decide_eq_false hz0]
      rw [if_neg hz0] at hF
      refine ⟨_, rfl, rfl, _, rfl, ?_⟩
      rw [decVS]
      by_cases hc0 : w0 = "class"
      · rw [decide_eq_true hc0]
        rw [if_pos hc0] at hF
        refine ⟨_, rfl, _, rfl, _, rfl, _, _, _, rfl, W, R, w0 :: r, s.rows, s.zooms, rfl, rfl, rfl, hW8, hR8, by omega, by omega, hwz, fun H9 s9 => ?_⟩
        have hW9 := s9 _ _ hW8
        have hR9 := s9 _ _ hR8
        refine ⟨_, rfl, _, rfl, 1, rfl, 2, rfl, W, _, rfl, SqL.of hW9, fun p hp => ?_⟩
        have ec : cutV ((w0 :: r).map V.str) (some 1) (some 2) = (r.take 1).map V.str := by
          rw [List.map_take]
          exact cutV_mid _ 1 2
        rw [ec]
        have s10 := same_new (o := .lst ((r.take 1).map V.str)) hp
        refine ⟨R, p, _, _, rfl, rfl, s10 _ _ hR9, upd_same, ?_, fun R' hR' => ?_⟩
        · rw [List.length_map, List.length_map]
          refine Nat.le_trans (show _ ≤ 1000 from ?_) (by decide)
          have : (r.take 1).length ≤ 1 := by rw [List.length_take]; omega
          omega
        have s11 := s10.trans (same_new (o := .lst (s.rows.map V.str ++ (r.take 1).map V.str)) hR')
        refine ⟨_, rfl, _, rfl, ?_⟩
        cases hk : clsOk (w0 :: r) s.zooms s.rows with
        | false =>
          rw [hk, if_neg (by decide)] at hF
          exact ⟨_, rfl, _, _, rfl, rfl, bad hF _ (s4.trans (s48.trans (s9.trans s11)))⟩
        | true =>
          rw [hk, if_pos rfl] at hF
          refine ⟨⟨w0, s.zooms, s.rows ++ r.take 1, ah⟩, R', A8, _, _, _, _, rfl, ⟨s48.trans (s9.trans s11), ?_, s11 _ _ (s9 _ _ hA8), behind_ok hb, ?_, good _ hF⟩⟩
          · show upd _ R' _ R' = _
            rw [upd_same, List.map_append]
          · show (s.rows ++ r.take 1).length ≤ i + 1
            have : (r.take 1).length ≤ 1 := by rw [List.length_take]; omega
            rw [List.length_append]
            omega
      rw [decide_eq_false hc0]
      rw [if_neg hc0] at hF
      refine ⟨_, rfl, _, rfl, _, rfl, _, _, _, rfl, W, R, A8, w0 :: r, s.rows, ah, rfl, rfl, rfl, hW8, hR8, hA8, by omega, by omega, fun H9 s9 => ⟨_, rfl, ?_⟩⟩
      have hW9 := s9 _ _ hW8
      have hR9 := s9 _ _ hR8
      have s49 := s48.trans s9
      cases hip : isPair s.rows (w0 :: r) ah with
      | false =>
        rw [hip] at hF
        have hF : fwStep s (w0 :: r) = none := by
          rw [hF]
          split
          · exact if_neg (fun z => by cases z.1)
          · exact if_neg (fun z => by cases z.1.1)
        refine ⟨_, rfl, _, rfl, _, rfl, _, rfl, (by show 0 ≤ sizeLine; decide), fun e he => ?_⟩
        exact ⟨_, rfl, _, rfl, _, rfl, _, _, rfl, rfl, bad hF _ (s4.trans (s49.trans (same_new he)))⟩
      | true =>
        rw [hip] at hF
        obtain ⟨x, y, r2, rfl⟩ : ∃ x y r2, r = x :: y :: r2 := by
          match r, hip with
          | [], h => exact Bool.noConfusion h
          | [_], h => exact Bool.noConfusion h
          | x :: y :: r2, _ => exact ⟨x, y, r2, rfl⟩
        have hL9 : (w0 :: x :: y :: r2).length = r2.length + 3 := rfl
        refine ⟨_, rfl, _, (w0 :: x :: y :: r2).length, rfl, .inl ⟨_, SqL.of hW9, by rw [List.length_map]⟩, _, rfl, rfl, _, rfl, ?_⟩
        rw [decVS]
        have ec : cutV ((w0 :: x :: y :: r2).map V.str) (some 1) (some 3) = [x, y].map V.str := cutV_mid _ 1 3
        by_cases hbe : w0 = "beside"
        · rw [decide_eq_true hbe]
          rw [if_pos hbe] at hF
          refine ⟨rfl, _, rfl, _, rfl, ?_⟩
          rw [show (3 : Int) = ((3 : Nat) : Int) from rfl, decVI]
          by_cases h3 : (w0 :: x :: y :: r2).length = 3
          · rw [decide_eq_true h3]
            rw [if_pos ⟨rfl, h3⟩] at hF
            refine ⟨_, rfl, rfl, _, rfl, ?_⟩
            rw [decVS, decide_eq_true hbe]
            refine ⟨_, rfl, _, rfl, _, rfl, 1, rfl, 3, rfl, W, _, rfl, SqL.of hW9, fun p2 hp2 => ?_⟩
            rw [ec]
            have s10 := same_new (o := .lst ([x, y].map V.str)) hp2
            refine ⟨_, rfl, _, _, rfl, p2, R, x, y, s.rows, rfl, rfl, upd_same, s10 _ _ hR9, by omega, fun H11 t s11 ht => ⟨_, rfl, _, rfl, ?_⟩⟩
            exact ⟨⟨w0, s.zooms, s.rows, pairIn s.rows (w0 :: x :: y :: r2)⟩, R, t, _, _, _, _, rfl, ⟨s49.trans (s10.trans s11), s11 _ _ (s10 _ _ hR9), ht, behind_ok hb, Nat.le_succ_of_le hln, good _ hF⟩⟩
          · rw [decide_eq_false h3]
            rw [if_neg (fun z => h3 z.2)] at hF
            refine ⟨_, rfl, _, rfl, (by show 0 ≤ sizeLine; decide), fun e he => ?_⟩
            exact ⟨_, rfl, _, rfl, _, rfl, _, _, rfl, rfl, bad hF _ (s4.trans (s49.trans (same_new he)))⟩
        · rw [decide_eq_false hbe]
          rw [if_neg hbe] at hF
          refine ⟨rfl, _, rfl, _, rfl, ?_⟩
          rw [show (4 : Int) = ((4 : Nat) : Int) from rfl, decVI]
          by_cases h4 : (w0 :: x :: y :: r2).length = 4
          · rw [decide_eq_true h4]
            obtain ⟨u, rfl⟩ : ∃ u, r2 = [u] := by
              match r2, h4 with
              | [], h => exact absurd h (by simp)
              | [u], _ => exact ⟨u, rfl⟩
              | _ :: _ :: _, h => exact absurd h (by simp)
            refine ⟨_, rfl, rfl, _, rfl, ?_⟩
            rw [decVS, decide_eq_false hbe]
            refine ⟨_, rfl, W, _, _, V.str u, rfl, rfl, SqL.of hW9, atI_nat (j := 3) rfl, _, rfl, u, rfl, hwz u (by simp), fun H10 s10 => ⟨_, _, rfl, rfl, _, rfl, ?_⟩⟩
            have hfn : farNum [w0, x, y, u] = (decide (0 < numW u) && decide (numW u < 10000)) := rfl
            by_cases g1 : 0 < numW u
            · rw [decide_eq_true g1, Bool.true_and] at hfn
              rw [decide_eq_true g1]
              refine ⟨_, _, rfl, rfl, ?_⟩
              show gName 9 (.bl (decide (numW u < 10000))) _ _ _
              by_cases g2 : numW u < 10000
              · rw [decide_eq_true g2] at hfn
                rw [decide_eq_true g2]
                rw [if_pos ⟨⟨rfl, h4⟩, hfn⟩] at hF
                refine ⟨_, rfl, _, rfl, _, rfl, 1, rfl, 3, rfl, W, _, rfl, SqL.of (s10 _ _ hW9), fun p2 hp2 => ?_⟩
                rw [ec]
                have s11 := s10.trans (same_new (o := .lst ([x, y].map V.str)) hp2)
                refine ⟨_, rfl, _, _, rfl, p2, R, x, y, s.rows, rfl, rfl, upd_same, s11 _ _ hR9, by omega, fun H12 t s12 ht => ⟨_, rfl, _, rfl, ?_⟩⟩
                exact ⟨⟨w0, s.zooms, s.rows, pairIn s.rows [w0, x, y, u]⟩, R, t, _, _, _, _, rfl, ⟨s49.trans (s11.trans s12), s12 _ _ (s11 _ _ hR9), ht, behind_ok hb, Nat.le_succ_of_le hln, good _ hF⟩⟩
              · rw [decide_eq_false g2] at hfn
                rw [decide_eq_false g2]
                rw [hfn, if_neg (fun z => by cases z.2)] at hF
                refine ⟨_, rfl, _, rfl, (by show 0 ≤ sizeLine; decide), fun e he => ?_⟩
                exact ⟨_, rfl, _, rfl, _, rfl, _, _, rfl, rfl, bad hF _ (s4.trans (s49.trans (s10.trans (same_new he))))⟩
            · rw [decide_eq_false g1, Bool.false_and] at hfn
              rw [decide_eq_false g1]
              rw [hfn, if_neg (fun z => by cases z.2)] at hF
              refine ⟨_, rfl, _, rfl, (by show 0 ≤ sizeLine; decide), fun e he => ?_⟩
              exact ⟨_, rfl, _, rfl, _, rfl, _, _, rfl, rfl, bad hF _ (s4.trans (s49.trans (s10.trans (same_new he))))⟩
          · rw [decide_eq_false h4]
            rw [if_neg (fun z => h4 z.1.2)] at hF
            refine ⟨_, rfl, _, rfl, (by show 0 ≤ sizeLine; decide), fun e he => ?_⟩
            exact ⟨_, rfl, _, rfl, _, rfl, _, _, rfl, rfl, bad hF _ (s4.trans (s49.trans (same_new he)))⟩
  · rintro σ H5 ⟨s, R, A, o6, o7, o8, o9, rfl, c⟩
    rw [List.length_map] at c
    refine ⟨_, rfl, (by show 0 ≤ sizeLine; decide), fun e he => ⟨R, e, _, rfl, rfl, SqL.of (same_new he _ _ c.ro), upd_same, _, rfl, ?_⟩⟩
    have sF := s4.trans (c.sm.trans (same_new (o := .lst []) he))
    have rd := c.rd
    rw [List.drop_length] at rd
    have qF := q _ sF
    unfold fwNum at qF
    rw [rd] at qF
    have qF : Q (.int ((if s.rows = [] then ls.length + 1 else 0 : Nat) : Int)) _ := qF
    cases hrw : s.rows with
    | nil =>
      rw [if_pos hrw] at qF
      exact ⟨_, rfl, _, ls.length, rfl, .inl ⟨_, SqL.of (same_new he _ _ (c.sm _ _ hL4)), by rw [List.length_map]⟩, _, _, rfl, rfl, qF⟩
    | cons a b =>
      rw [if_neg (by rw [hrw]; simp)] at qF
      exact qF
end
end SK

set_option maxHeartbeats 4000000
/-! what spoiling keeps of a line -/
namespace SL
open PySem PySem.Spec PyProof.Rows L2 TL
def Ln (B : Nat) (z : Str) : Prop := z.length ≤ B ∧ 10 ∉ tl z
theorem Ln.mono {B C : Nat} {z : Str} (h : Ln B z) (e : B ≤ C) : Ln C z := ⟨Nat.le_trans h.1 e, h.2⟩
def wt (ws : List Str) : Nat := (ws.map fun w => w.length + 1).sum
theorem wt_app (a b : List Str) : wt (a ++ b) = wt a + wt b := by
  unfold wt
  rw [List.map_append, List.sum_append]
theorem wt_one (a : Str) : wt [a] = a.length + 1 := by simp [wt]
theorem joinL_wt (s : Nat) : ∀ ws : List Str, (joinL [s] (ws.map tl)).length + (if ws = [] then 0 else 1) = wt ws
  | [] => rfl
  | [p] => by
    show (tl p).length + 1 = wt [p]
    rw [wt_one, len_tl]
  | p :: q :: r => by
    show (tl p ++ ([s] ++ joinL [s] ((q :: r).map tl))).length + 1 = wt (p :: (q :: r))
    have h := joinL_wt s (q :: r)
    rw [if_neg (by simp)] at h
    rw [show (p :: q :: r) = [p] ++ (q :: r) from rfl, wt_app, wt_one, List.length_append, List.length_append, ← h, len_tl, List.length_singleton]
    omega
theorem join_wt {y : Str} {s : Nat} (ey : tl y = [s]) (ws : List Str) : (Txt.join y ws).length + (if ws = [] then 0 else 1) = wt ws := by
  rw [len_tl, join_eq, tl_join, ey]
  exact joinL_wt s ws
theorem split_ne (x y : Str) {s : Nat} (ey : tl y = [s]) (hk : y.cps.all (· < 256) = true) : Txt.split x y ≠ [] := (split_bounds ey hk x).2.1
theorem split_wt (x : Str) : wt (Txt.split x " ") = x.length + 1 := by
  have h := join_wt (y := " ") tl_sp (Txt.split x " ")
  rw [if_neg (split_ne x _ tl_sp (by decide +kernel)), join_eq, StrLaws.join_split] at h
  exact h.symm
theorem mem_joinL' {c : Nat} {S : List Nat} : ∀ {ps : List (List Nat)} {p}, p ∈ ps → c ∈ p → c ∈ joinL S ps
  | [p], q, hq, hc => by
    rw [List.mem_singleton] at hq
    subst hq
    exact hc
  | p :: r :: t, q, hq, hc => by
    show c ∈ p ++ (S ++ joinL S (r :: t))
    rcases List.mem_cons.mp hq with rfl | hq
    · exact List.mem_append_left _ hc
    · exact List.mem_append_right _ (List.mem_append_right _ (mem_joinL' hq hc))
theorem split_sub {x y p : Str} {c : Nat} (hp : p ∈ Txt.split x y) (hc : c ∈ tl p) : c ∈ tl x := by
  have h : tl (Str.join y (Txt.split x y)) = tl x := by rw [StrLaws.join_split]
  rw [← h, tl_join]
  exact mem_joinL' (List.mem_map.mpr ⟨p, hp, rfl⟩) hc
theorem split_ln {B : Nat} {x : Str} (h : Ln B x) : ∀ p ∈ Txt.split x " ", Ln B p := fun p hp => ⟨Nat.le_trans ((split_bounds tl_sp (by decide +kernel) x).2.2 p hp) h.1, fun hc => h.2 (split_sub hp hc)⟩
theorem join_ln {C : Nat} {ws : List Str} (h : wt ws ≤ C) (hn : ∀ p ∈ ws, 10 ∉ tl p) : Ln C (Txt.join " " ws) := by
  refine ⟨?_, fun hc => ?_⟩
  · have := join_wt (y := " ") tl_sp ws
    omega
  · rw [join_eq, tl_join, tl_sp] at hc
    rcases mem_joinL hc with h1 | ⟨p, hp, h1⟩
    · simp at h1
    · obtain ⟨z, hz, rfl⟩ := List.mem_map.mp hp
      exact hn z hz h1
theorem wt_take_drop (ws : List Str) (k : Nat) : wt (ws.take k) + wt (ws.drop k) = wt ws := by rw [← wt_app, List.take_append_drop]
theorem wt_drop_le (ws : List Str) (k : Nat) : wt (ws.drop k) ≤ wt ws := by
  have := wt_take_drop ws k
  omega
theorem wt_get {ws : List Str} {k : Nat} {p : Str} (h : ws[k]? = some p) : wt (ws.take k) + (p.length + 1) + wt (ws.drop (k + 1)) = wt ws := by
  obtain ⟨hk, e⟩ := List.getElem?_eq_some_iff.mp h
  rw [← wt_take_drop ws k, List.drop_eq_getElem_cons hk, e, show p :: ws.drop (k + 1) = [p] ++ ws.drop (k + 1) from rfl, wt_app, wt_one]
  omega
/-- one word put for another -/
theorem ln_put {B k : Nat} {x p q : Str} (h : Ln B x) (hp : (Txt.split x " ")[k]? = some p) (hq : q.length ≤ p.length + 13 ∧ 10 ∉ tl q) : Ln (2 * B + 14) (Txt.join " " ((Txt.split x " ").take k ++ [q] ++ (Txt.split x " ").drop (k + 1))) := by
  have hw := split_ln h
  refine join_ln ?_ fun z hz => ?_
  · have h1 := wt_get hp
    have h2 := split_wt x
    have h3 := h.1
    rw [wt_app, wt_app, wt_one]
    omega
  · rw [List.append_assoc] at hz
    rcases List.mem_append.mp hz with hz | hz
    · exact (hw z (List.mem_of_mem_take hz)).2
    · rcases List.mem_append.mp hz with hz | hz
      · rw [List.mem_singleton] at hz
        rw [hz]
        exact hq.2
      · exact (hw z (List.mem_of_mem_drop hz)).2
/-- one word more -/
theorem ln_more {B k : Nat} {x q : Str} (h : Ln B x) (hq : q.length ≤ B + 1 ∧ 10 ∉ tl q) : Ln (2 * B + 14) (Txt.join " " ((Txt.split x " ").take k ++ [q] ++ (Txt.split x " ").drop k)) := by
  have hw := split_ln h
  refine join_ln ?_ fun z hz => ?_
  · have h1 := wt_take_drop (Txt.split x " ") k
    have h2 := split_wt x
    have h3 := h.1
    rw [wt_app, wt_app, wt_one]
    omega
  · rw [List.append_assoc] at hz
    rcases List.mem_append.mp hz with hz | hz
    · exact (hw z (List.mem_of_mem_take hz)).2
    · rcases List.mem_append.mp hz with hz | hz
      · rw [List.mem_singleton] at hz
        rw [hz]
        exact hq.2
      · exact (hw z (List.mem_of_mem_drop hz)).2
/-- one word less -/
theorem ln_less {B k : Nat} {x : Str} (h : Ln B x) : Ln (2 * B + 14) (Txt.join " " ((Txt.split x " ").take k ++ (Txt.split x " ").drop (k + 1))) := by
  have hw := split_ln h
  refine join_ln ?_ fun z hz => ?_
  · have h1 := wt_take_drop (Txt.split x " ") k
    have h4 := wt_drop_le ((Txt.split x " ").drop k) 1
    rw [List.drop_drop] at h4
    have h2 := split_wt x
    have h3 := h.1
    rw [wt_app]
    omega
  · rcases List.mem_append.mp hz with hz | hz
    · exact (hw z (List.mem_of_mem_take hz)).2
    · exact (hw z (List.mem_of_mem_drop hz)).2
theorem cutS_sub {z : Str} {lo hi : Option Int} {c : Nat} (h : c ∈ tl (cutS z lo hi)) : c ∈ tl z := by
  unfold cutS tl at h
  exact List.mem_of_mem_drop (List.mem_of_mem_take h)
theorem tl_app (a b : Str) : tl (a ++ b) = tl a ++ tl b := by
  show (a.cps ++ b.cps).toList = _
  rw [Array.toList_append]
/-- signs put for others -/
theorem ln_sign {B : Nat} {x q : Str} {k j : Nat} (h : Ln B x) (hq : q.length ≤ 1 ∧ 10 ∉ tl q) (hkj : k ≤ j) : Ln (2 * B + 14) (cutS x none (some (k : Int)) ++ q ++ cutS x (some (j : Int)) none) := by
  refine ⟨?_, fun hc => ?_⟩
  · have h1 : (cutS x none (some (k : Int))).length ≤ x.length := cutS_length _ _ _
    have h2 : (cutS x (some (j : Int)) none).length ≤ x.length := cutS_length _ _ _
    have h3 := h.1
    rw [len_app, len_app]
    omega
  · rw [tl_app, tl_app, List.append_assoc] at hc
    rcases List.mem_append.mp hc with hc | hc
    · exact h.2 (cutS_sub hc)
    · rcases List.mem_append.mp hc with hc | hc
      · exact hq.2 hc
      · exact h.2 (cutS_sub hc)
theorem foldDig : ∀ (cs : List Nat) (n : Nat), (∀ c ∈ cs, 48 ≤ c ∧ c ≤ 57) → cs.foldl (fun acc c => acc * 10 + (c - 48)) n < (n + 1) * 10 ^ cs.length
  | [], n, _ => by simp
  | c :: r, n, h => by
    have hc := h c (by simp)
    have h1 := foldDig r (n * 10 + (c - 48)) fun c hc => h c (List.mem_cons_of_mem _ hc)
    rw [List.foldl_cons, List.length_cons, Nat.pow_succ]
    refine Nat.lt_of_lt_of_le h1 ?_
    rw [show (n + 1) * (10 ^ r.length * 10) = ((n + 1) * 10) * 10 ^ r.length by rw [Nat.mul_comm (10 ^ r.length) 10, Nat.mul_assoc]]
    exact Nat.mul_le_mul_right _ (by omega)
theorem numW_lt {z : Str} (hl : z.length ≤ 640) (h : 0 ≤ numW z) : ∃ n : Nat, numW z = n ∧ n < 10 ^ z.length ∧ 1 ≤ z.length := by
  have hw := whole_pos h
  unfold wholeIn at hw
  split at hw
  · cases hw
  · rename_i h0
    split at hw
    · have hf : allFig z = true := by
        cases e : allFig z with
        | true => rfl
        | false => exact absurd (.inr e) h0
      have hd : ∀ c ∈ z.cps.toList, 48 ≤ c ∧ c ≤ 57 := fun c hc => fig_ok (of_decide_eq_true (List.all_eq_true.mp hf c hc))
      have hne : z.cps.toList ≠ [] := fun e => h0 (.inl (ext_tl (x := z) (y := "") (by show z.cps.toList = _; rw [e]; decide +kernel)))
      have hi := intText_digits (x := z) hd hne (by omega)
      rw [hi] at hw
      refine ⟨_, (Option.some.inj hw).symm, ?_, ?_⟩
      · have := foldDig z.cps.toList 0 hd
        rw [show z.cps.toList.length = z.length from Array.length_toList] at this
        simpa [NumText.digitsVal] using this
      · have : z.cps.toList.length = z.length := Array.length_toList
        have : 0 < z.cps.toList.length := List.length_pos_iff.mpr hne
        omega
    · cases hw
theorem numTxt {n k : Nat} (hn : n < 10 ^ k) (h1 : 1 ≤ k) {d : Int} (hd : d = 1 ∨ d = -1) : (numS ((n : Int) + d)).length ≤ k + 13 ∧ 10 ∉ tl (numS ((n : Int) + d)) := by
  have pos : ∀ m : Nat, m ≤ n + 1 → (numS (m : Int)).length ≤ k + 13 ∧ 10 ∉ tl (numS (m : Int)) := fun m hm => by
    have et : tl (numS (m : Int)) = numL m := tl_num m
    rw [len_tl, et]
    refine ⟨Nat.le_trans (numL_len (k := k + 1) (by omega) ?_) (by omega), fun hc => ?_⟩
    · rw [Nat.pow_succ]
      omega
    · have := numL_digits m 10 hc
      omega
  rcases hd with rfl | rfl
  · exact pos (n + 1) (Nat.le_refl _)
  · cases n with
    | zero =>
      refine ⟨?_, by decide +kernel⟩
      have : (numS (((0 : Nat) : Int) + -1)).length = 2 := by decide +kernel
      omega
    | succ m =>
      rw [show (((m + 1 : Nat) : Int) + -1) = (m : Int) by omega]
      exact pos m (by omega)
theorem log_ok {n k : Nat} (hn : n < 10 ^ k) (hk : k ≤ 570) {d : Int} (hd : d = 1 ∨ d = -1) : ((n : Int) + d).natAbs.log2 < 1920 := by
  have h1 : n < 10 ^ 570 := Nat.lt_of_lt_of_le hn (Nat.pow_le_pow_right (by decide) hk)
  have h2 : (10 : Nat) ^ 570 + 1 < 2 ^ 1920 := by decide +kernel
  have h3 : ((n : Int) + d).natAbs ≤ n + 1 := by omega
  by_cases h0 : ((n : Int) + d).natAbs = 0
  · rw [h0]
    decide
  · exact (Nat.log2_lt h0).mpr (by omega)
theorem numS2 : ∀ n : Nat, n < 100 → (numS (n : Int)).length ≤ 2 := fun n h => by
  rw [len_tl, show tl (numS (n : Int)) = numL n from tl_num n]
  exact numL_len (by decide) h
theorem wt_sum (ys : List Str) : (ys.map (·.length)).sum + ys.length * (" " : Str).length = wt ys := by
  have e : (" " : Str).length = 1 := by decide +kernel
  rw [e]
  induction ys with
  | nil => rfl
  | cons y r ih =>
    unfold wt at *
    simp only [List.map_cons, List.sum_cons, List.length_cons] at *
    omega
theorem ext_sub {ws a b : List Str} {q : Str} (ha : ∀ z ∈ a, z ∈ ws) (hb : ∀ z ∈ b, z ∈ ws) (hw : ∀ p ∈ ws, 10 ∉ tl p) (hq : 10 ∉ tl q) : ∀ z ∈ a ++ [q] ++ b, 10 ∉ tl z := fun z hz => by
  rw [List.append_assoc] at hz
  rcases List.mem_append.mp hz with hz | hz
  · exact hw z (ha z hz)
  · rcases List.mem_append.mp hz with hz | hz
    · rw [List.mem_singleton] at hz
      rw [hz]
      exact hq
    · exact hw z (hb z hz)
theorem wt_put {B k : Nat} {x p q : Str} (h : Ln B x) (hp : (Txt.split x " ")[k]? = some p) (hq : q.length ≤ p.length + 13) : wt ((Txt.split x " ").take k ++ [q] ++ (Txt.split x " ").drop (k + 1)) ≤ 2 * B + 14 := by
  have h1 := wt_get hp
  have h2 := split_wt x
  have h3 := h.1
  rw [wt_app, wt_app, wt_one]
  omega
theorem wt_more {B k : Nat} {x q : Str} (h : Ln B x) (hq : q.length ≤ B + 1) : wt ((Txt.split x " ").take k ++ [q] ++ (Txt.split x " ").drop k) ≤ 2 * B + 14 := by
  have h1 := wt_take_drop (Txt.split x " ") k
  have h2 := split_wt x
  have h3 := h.1
  rw [wt_app, wt_app, wt_one]
  omega
theorem wt_less {B k : Nat} {x : Str} (h : Ln B x) : wt ((Txt.split x " ").take k ++ (Txt.split x " ").drop (k + 1)) ≤ 2 * B + 14 := by
  have h1 := wt_take_drop (Txt.split x " ") k
  have h4 := wt_drop_le ((Txt.split x " ").drop k) 1
  rw [List.drop_drop] at h4
  have h2 := split_wt x
  have h3 := h.1
  rw [wt_app]
  omega
theorem cutV_take (xs : List V) (k : Nat) : cutV xs none (some (k : Int)) = xs.take k := by
  unfold cutV
  rw [HT.sIx_nat, HT.sIx_none, List.drop_zero, Nat.sub_zero]
  by_cases h : k ≤ xs.length
  · rw [Nat.min_eq_left h]
  · rw [Nat.min_eq_right (by omega), List.take_of_length_le (Nat.le_refl _), List.take_of_length_le (by omega)]
theorem cutT (xs : List Str) (k : Nat) : cutV (xs.map V.str) none (some (k : Int)) = (xs.take k).map V.str := by rw [cutV_take, List.map_take]
theorem cutD (xs : List Str) (k : Nat) : cutV (xs.map V.str) (some (k : Int)) none = (xs.drop k).map V.str := by rw [cutV_drop, List.map_drop]
end SL
set_option maxHeartbeats 4000000
namespace SL
open PySem PySem.Spec PyProof.Rows L2 TL
def someW : List Str := (["0", "1", "5", "6", "9", "10", "03", "9999", "10000", "-1", "", "a", "A", "zooms", "class", "beside", "far"] : List Str) ++ (["abcdefghijklm", "a1", "2.0"] : List Str)
theorem someW_ok : ∀ z ∈ someW, z.length ≤ 13 ∧ 10 ∉ tl z := by decide +kernel
def spWordSp : Sp := sp2 fun a b H Q _ => ∃ (p : Addr) (f : Nat) (z : Str), a = .ref p ∧ b = .str z ∧ Pt p (f + 2) H ∧ z.length ≤ 570 ∧ ∀ q H', (q.length ≤ z.length + 13 ∧ 10 ∉ tl q) → Pt p f H' → Kp p H H' → Q (.str q) H'
end SL
namespace SK
open PySem PySem.Spec PyProof.Rows L2 SL
section
variable {w : World} {K : PySem.W.Frag} {mg : Str → Option Value} {base : Heap}
abbrev n_law_word_spoilt : List Str := ["_law_pot_here", "_law_word", "_law_number_here", "_law_some"]
theorem sc_law_word_spoilt : FnScope n_law_word_spoilt ["_law_pot_here", "_law_word"] (defScope d_law_word_spoilt) := ⟨rfl, rfl, rfl, by decide +kernel, rfl, by decide +kernel, by decide +kernel⟩
theorem ok_law_word_spoilt (T : Top w K mg) : Has prg w K mg base CX0 3 (He.ga K "_law_word_spoilt") ["_law_pot_here", "_law_word"] spWordSp := by
  obtain ⟨fd, F⟩ := T.F_law_word_spoilt
  obtain ⟨fd_law_number, G_law_number, b_law_number, k_law_number⟩ := ok_law_number (base := base) T
  obtain ⟨fd_law_take, G_law_take, b_law_take, k_law_take⟩ := ok_law_take (base := base) T
  obtain ⟨fd_law_of, G_law_of, b_law_of, k_law_of⟩ := ok_law_of (base := base) T
  refine ⟨fd, F.ok (k := 2) sc_law_word_spoilt (fun _ _ _ _ h => sp2_len h) (fun cdv A outer s H vs Q E hr h => ?_), F.bindsN (fun _ _ _ _ _ _ us hl => match us, hl with | [_, _], _ => rfl), F.kp⟩
  obtain ⟨v0, v1, rfl, h⟩ := h
  refine ⟨_, PSs.nox (pss_cons (ps_set (i := 2) sc_law_word_spoilt.nd rfl (Or.inl rfl) (pe_call G_law_number (hr.mono (by decide)) (by rfl) T.g_law_number k_law_number b_law_number .nil pass0 (pa_cons (pv 1) pa_nil)))
    (pss_cons (ps_set (i := 3) sc_law_word_spoilt.nd rfl (Or.inl rfl) (pe_lst (pa_cons pe_str (pa_cons pe_str (pa_cons pe_str (pa_cons pe_str (pa_cons pe_str (pa_cons pe_str (pa_cons pe_str (pa_cons pe_str (pa_cons pe_str (pa_cons pe_str (pa_cons pe_str (pa_cons pe_str (pa_cons pe_str (pa_cons pe_str (pa_cons pe_str (pa_cons pe_str (pa_cons pe_str pa_nil)))))))))))))))))))
    (pss_cons (ps_if (PW.pt (pw_and (pt_cmpR op_ge (pv 2) pe_int (nomark _)) (pw_and1 (pt_cmpR op_eq (pe_call G_law_take (hr.mono (by decide)) (by rfl) T.g_law_take k_law_take b_law_take .nil pass0 (pa_cons (pv 0) (pa_cons pe_int pa_nil))) pe_int (nomark _))))) (pss_one (ps_ret (pe_callTy call_str_int (by rfl) T.b_str boot_str (pa_cons (pe_op op_add (pv 2) (pe_call G_law_of (hr.mono (by decide)) (by rfl) T.g_law_of k_law_of b_law_of .nil pass0 (pa_cons (pv 0) (pa_cons (pe_lst (pa_cons pe_int (pa_cons (pe_un un_neg pe_int) pa_nil))) pa_nil)))) pa_nil)))) pss_nil)
    (pss_one (ps_ret (pe_call G_law_of (hr.mono (by decide)) (by rfl) T.g_law_of k_law_of b_law_of .nil pass0 (pa_cons (pv 0) (pa_cons (pe_op op_cat (pv 3) (pe_lst (pa_cons pe_str (pa_cons pe_str (pa_cons pe_str pa_nil))))) pa_nil)))))))), ?_⟩
  obtain ⟨p, f, z, rfl, rfl, hp, hl, q⟩ := h
  refine ⟨_, rfl, _, rfl, z, rfl, by omega, fun H1 s1 => ⟨(by show 17 ≤ sizeLine; decide), fun a1 ha1 => ?_⟩⟩
  have s2 := s1.trans (same_new (o := .lst [V.str "0", V.str "1", V.str "5", V.str "6", V.str "9", V.str "10", V.str "03", V.str "9999", V.str "10000", V.str "-1", V.str "", V.str "a", V.str "A", V.str "zooms", V.str "class", V.str "beside", V.str "far"]) ha1)
  have hA2 : upd H1 a1 (.lst [V.str "0", V.str "1", V.str "5", V.str "6", V.str "9", V.str "10", V.str "03", V.str "9999", V.str "10000", V.str "-1", V.str "", V.str "a", V.str "A", V.str "zooms", V.str "class", V.str "beside", V.str "far"]) a1 = some _ := upd_same
  generalize upd H1 a1 (.lst [V.str "0", V.str "1", V.str "5", V.str "6", V.str "9", V.str "10", V.str "03", V.str "9999", V.str "10000", V.str "-1", V.str "", V.str "a", V.str "A", V.str "zooms", V.str "class", V.str "beside", V.str "far"]) = H2 at s2 hA2 ⊢
  have na : a1 ≠ p := (hp.same s1).ne ha1
  have fin : ∀ H3, Kp p H2 H3 → Pt p (f + 1) H3 → (tRet (tCall spOfL [] E0 (tCons (tVar 0) (tCons (tOp rCat (tVar 3) (tLst (tCons (tC (V.str "abcdefghijklm")) (tCons (tC (V.str "a1")) (tCons (tC (V.str "2.0")) tNil))))) tNil)))) { nx := fun _ H' => Q .non H', rt := Q } [some (.ref p), some (.str z), some (.int (numW z)), some (.ref a1)] H3 := fun H3 k3 hp3 => by
    refine ⟨_, rfl, _, rfl, (by show 3 ≤ sizeLine; decide), fun b hb => ?_⟩
    have sb := same_new (o := .lst [V.str "abcdefghijklm", V.str "a1", V.str "2.0"]) hb
    refine ⟨a1, b, _, _, rfl, rfl, sb _ _ (k3 _ _ na hA2), upd_same, (by show 20 ≤ sizeLine; decide), fun c hc => ?_⟩
    have sc := sb.trans (same_new (o := .lst ([V.str "0", V.str "1", V.str "5", V.str "6", V.str "9", V.str "10", V.str "03", V.str "9999", V.str "10000", V.str "-1", V.str "", V.str "a", V.str "A", V.str "zooms", V.str "class", V.str "beside", V.str "far"] ++ [V.str "abcdefghijklm", V.str "a1", V.str "2.0"])) hc)
    refine of_q (hp3.same sc) upd_same ((hp3.same sb).ne hc) (by show 0 < 20; decide) (by show 20 ≤ 1000000; decide) fun x H4 hx hp4 k4 => ?_
    have hx : x ∈ someW.map V.str := hx
    obtain ⟨y, hy, rfl⟩ := List.mem_map.mp hx
    have := someW_ok y hy
    exact q y H4 ⟨by omega, this.2⟩ hp4 (((Kp.of s2).trans k3).trans ((Kp.of sc).trans k4))
  refine ⟨_, rfl, _, _, rfl, rfl, _, rfl, ?_⟩
  by_cases h0 : 0 ≤ numW z
  · rw [decide_eq_true h0]
    refine ⟨_, rfl, take_q (f := f + 1) (hp.same s2) (by decide) (by decide) fun r H3 r0 r1 hp3 k3 => ⟨rfl, _, rfl, ?_⟩⟩
    by_cases hr : V.int r = V.int 0
    · rw [decide_eq_true hr]
      obtain ⟨n, en, hn, h1⟩ := numW_lt (by omega) h0
      refine ⟨_, rfl, _, rfl, _, rfl, (by show 2 ≤ sizeLine; decide), fun b hb => ?_⟩
      have sb := same_new (o := .lst [V.int 1, V.int (-1)]) hb
      refine of_q (hp3.same sb) upd_same (hp3.ne hb) (by show 0 < 2; decide) (by show 2 ≤ 1000000; decide) fun x H4 hx hp4 k4 => ?_
      obtain ⟨d, rfl, hd⟩ : ∃ d : Int, x = .int d ∧ (d = 1 ∨ d = -1) := by
        simp only [List.mem_cons, List.not_mem_nil, or_false] at hx
        rcases hx with rfl | rfl
        · exact ⟨_, rfl, .inl rfl⟩
        · exact ⟨_, rfl, .inr rfl⟩
      refine ⟨_, _, rfl, rfl, _, rfl, ?_, ?_⟩
      · rw [en]
        exact log_ok hn hl hd
      · rw [en]
        exact q _ H4 (numTxt hn h1 hd) hp4 (((Kp.of s2).trans k3).trans ((Kp.of sb).trans k4))
    · rw [decide_eq_false hr]
      exact fin H3 k3 hp3
  · rw [decide_eq_false h0]
    exact fin H2 (Kp.refl _ _) ((hp.same s2).mono (by omega))
end
end SK

set_option maxHeartbeats 4000000
namespace SL
open PySem PySem.Spec PyProof.Rows L2 TL
def signsL : List Str := sgn " abz0129-_.,:;|!AZ~"
theorem signs_ok : signsL.length = 19 ∧ ∀ z ∈ signsL, z.length ≤ 1 ∧ 10 ∉ tl z := by decide +kernel
theorem map3 (a b : List Str) (q : Str) : a.map V.str ++ [V.str q] ++ b.map V.str = (a ++ [q] ++ b).map V.str := by simp
theorem map2 (a b : List Str) : a.map V.str ++ b.map V.str = (a ++ b).map V.str := by simp
theorem get_str {ws : List Str} {k : Nat} (h : k < ws.length) : ∃ p, ws[k]? = some p ∧ p ∈ ws ∧ (ws.map V.str)[k]? = some (V.str p) := ⟨ws[k], List.getElem?_eq_getElem h, List.getElem_mem h, by rw [List.getElem?_map, List.getElem?_eq_getElem h]; rfl⟩
def spLineSp : Sp := sp2 fun a b H Q _ => ∃ (p : Addr) (f B : Nat) (z : Str), a = .ref p ∧ b = .str z ∧ Pt p (f + 5) H ∧ Ln B z ∧ B ≤ 570 ∧ ∀ q H', Ln (2 * B + 14) q → Pt p f H' → Kp p H H' → Q (.str q) H'
end SL
namespace SK
open PySem PySem.Spec PyProof.Rows L2 SL
section
variable {w : World} {K : PySem.W.Frag} {mg : Str → Option Value} {base : Heap}
abbrev n_law_line_spoilt : List Str := ["_law_pot_here", "_law_line", "_law_sign", "_law_words", "_law_way", "_law_at", "_law_spot"]
theorem sc_law_line_spoilt : FnScope n_law_line_spoilt ["_law_pot_here", "_law_line"] (defScope d_law_line_spoilt) := ⟨rfl, rfl, rfl, by decide +kernel, rfl, by decide +kernel, by decide +kernel⟩
theorem ok_law_line_spoilt (T : Top w K mg) : Has prg w K mg base CX0 4 (He.ga K "_law_line_spoilt") ["_law_pot_here", "_law_line"] spLineSp := by
  obtain ⟨fd, F⟩ := T.F_law_line_spoilt
  obtain ⟨fd_law_take, G_law_take, b_law_take, k_law_take⟩ := ok_law_take (base := base) T
  obtain ⟨fd_law_word_spoilt, G_law_word_spoilt, b_law_word_spoilt, k_law_word_spoilt⟩ := ok_law_word_spoilt (base := base) T
  obtain ⟨fd_law_of, G_law_of, b_law_of, k_law_of⟩ := ok_law_of (base := base) T
  refine ⟨fd, F.ok (k := 3) sc_law_line_spoilt (fun _ _ _ _ h => sp2_len h) (fun cdv A outer s H vs Q E hr h => ?_), F.bindsN (fun _ _ _ _ _ _ us hl => match us, hl with | [_, _], _ => rfl), F.kp⟩
  obtain ⟨v0, v1, rfl, h⟩ := h
  refine ⟨_, PSs.nox (pss_cons (ps_par (i := 3) (j := 4) (by rfl) sc_law_line_spoilt.nd rfl rfl (by decide) rfl rfl (pa_cons (pe_split (pv 1) pe_str) (pa_cons (pe_call G_law_take (hr.mono (by decide)) (by rfl) T.g_law_take k_law_take b_law_take .nil pass0 (pa_cons (pv 0) (pa_cons pe_int pa_nil))) pa_nil)) (by rfl))
    (pss_cons (ps_par (i := 5) (j := 6) (by rfl) sc_law_line_spoilt.nd rfl rfl (by decide) rfl rfl (pa_cons (pe_call G_law_take (hr.mono (by decide)) (by rfl) T.g_law_take k_law_take b_law_take .nil pass0 (pa_cons (pv 0) (pa_cons (pe_callB call_len (by rfl) T.b_len (by decide +kernel) (pa_cons (pv 3) pa_nil)) pa_nil))) (pa_cons (pe_call G_law_take (hr.mono (by decide)) (by rfl) T.g_law_take k_law_take b_law_take .nil pass0 (pa_cons (pv 0) (pa_cons (pe_op op_add (pe_callB call_len (by rfl) T.b_len (by decide +kernel) (pa_cons (pv 1) pa_nil)) pe_int) pa_nil))) pa_nil)) (by rfl))
    (pss_cons (ps_if (pt_cmpR op_lt (pv 4) pe_int (nomark _)) (pss_one (ps_ret (pe_join pe_str (pe_op op_cat (pe_op op_cat (pe_slice sl_list (pv 3) po_none (po_some (pv 5))) (pe_lst (pa_cons (pe_call G_law_word_spoilt (hr.mono (by decide)) (by rfl) T.g_law_word_spoilt k_law_word_spoilt b_law_word_spoilt .nil pass0 (pa_cons (pv 0) (pa_cons (pe_ix ix_list (pv 3) (pv 5) (fun _ _ => rfl)) pa_nil))) pa_nil))) (pe_slice sl_list (pv 3) (po_some (pe_op op_add (pv 5) pe_int)) po_none))))) pss_nil)
    (pss_cons (ps_if (pt_cmpR op_eq (pv 4) pe_int (nomark _)) (pss_one (ps_ret (pe_join pe_str (pe_op op_cat (pe_op op_cat (pe_slice sl_list (pv 3) po_none (po_some (pv 5))) (pe_lst (pa_cons (pe_call G_law_of (hr.mono (by decide)) (by rfl) T.g_law_of k_law_of b_law_of .nil pass0 (pa_cons (pv 0) (pa_cons (pe_op op_cat (pv 3) (pe_lst (pa_cons pe_str (pa_cons pe_str pa_nil)))) pa_nil))) pa_nil))) (pe_slice sl_list (pv 3) (po_some (pv 5)) po_none))))) pss_nil)
    (pss_cons (ps_if (pt_cmpR op_eq (pv 4) pe_int (nomark _)) (pss_one (ps_ret (pe_join pe_str (pe_op op_cat (pe_slice sl_list (pv 3) po_none (po_some (pv 5))) (pe_slice sl_list (pv 3) (po_some (pe_op op_add (pv 5) pe_int)) po_none))))) pss_nil)
    (pss_cons (ps_set (i := 2) sc_law_line_spoilt.nd rfl (Or.inl rfl) (pe_call G_law_of (hr.mono (by decide)) (by rfl) T.g_law_of k_law_of b_law_of .nil pass0 (pa_cons (pv 0) (pa_cons (pe_callTy (call_listS (by rfl)) (by rfl) T.b_list boot_list (pa_cons pe_str pa_nil)) pa_nil))))
    (pss_one (ps_ret (pe_op op_add_str (pe_op op_add_str (pe_slice sl_str (pv 1) po_none (po_some (pv 6))) (pv 2)) (pe_slice sl_str (pv 1) (po_some (pe_op op_add (pv 6) (pe_call G_law_take (hr.mono (by decide)) (by rfl) T.g_law_take k_law_take b_law_take .nil pass0 (pa_cons (pv 0) (pa_cons pe_int pa_nil))))) po_none)))))))))), ?_⟩
  obtain ⟨p, f, B, z, rfl, rfl, hp, hz, hB, q⟩ := h
  have hzl := hz.1
  obtain ⟨b1, b2, b3⟩ := split_bounds (y := " ") (s := 32) (by decide +kernel) (by decide +kernel) z
  refine ⟨_, rfl, ⟨_, rfl⟩, _, _, rfl, rfl, by decide, Nat.le_trans (show z.length + 2 ≤ 1000 by omega) (by decide), fun W hW => ?_⟩
  have s1 : Same H (upd H W (.lst ((Txt.split z " ").map V.str))) := same_new hW
  have hW1 : upd H W (.lst ((Txt.split z " ").map V.str)) W = some (.lst ((Txt.split z " ").map V.str)) := upd_same
  have nW := hp.ne hW
  generalize upd H W (.lst ((Txt.split z " ").map V.str)) = H1 at s1 hW1 ⊢
  refine ⟨_, rfl, take_q (f := f + 4) (hp.same s1) (by decide) (by decide) fun way H2 w0 w1 hp2 k2 => ⟨_, _, rfl, ?_⟩⟩
  have hW2 := k2 _ _ nW hW1
  have hlen : 0 < (Txt.split z " ").length := List.length_pos_iff.mpr b2
  refine ⟨_, rfl, _, rfl, _, (Txt.split z " ").length, rfl, .inl ⟨_, SqL.of hW2, by rw [List.length_map]⟩, take_q (f := f + 3) hp2 (by omega) (by omega) fun at' H3 a0 a1 hp3 k3 => ?_⟩
  obtain ⟨k, rfl⟩ := Int.eq_ofNat_of_zero_le a0
  have hW3 := k3 _ _ nW hW2
  refine ⟨_, rfl, _, rfl, _, z.length, rfl, ⟨Nat.le_trans (show z.length ≤ 1000 by omega) (by decide), rfl⟩, _, _, rfl, rfl, take_q (f := f + 2) hp3 (by omega) (by omega) fun spot H4 t0 t1 hp4 k4 => ⟨_, _, rfl, ?_⟩⟩
  obtain ⟨j, rfl⟩ := Int.eq_ofNat_of_zero_le t0
  have hW4 := k4 _ _ nW hW3
  have kp4 : Kp p H H4 := (((Kp.of s1).trans k2).trans k3).trans k4
  clear k2 k3 k4 hW1 hW2 hW3 hp2 hp3 hp s1
  have hk : k < (Txt.split z " ").length := by omega
  obtain ⟨pw, hpk, hpm, hpv⟩ := get_str hk
  have hws := split_ln hz
  have wn : ∀ p ∈ Txt.split z " ", 10 ∉ TL.tl p := fun p hp => (hws p hp).2
  have sp1 : (" " : Str).length = 1 := by decide +kernel
  have join : ∀ (ys : List Str) (H6 : Hp), wt ys ≤ 2 * B + 14 → (∀ p ∈ ys, 10 ∉ TL.tl p) → Pt p f H6 → Kp p H H6 → (ys.map (·.length)).sum + ys.length * (" " : Str).length ≤ 16777216 ∧ Q (.str (Txt.join " " ys)) H6 := fun ys H6 h1 h2 h3 h4 => ⟨by rw [wt_sum]; omega, q _ H6 (join_ln h1 h2) h3 h4⟩
  generalize hwse : Txt.split z " " = ws at hW4 hk hpk hpv hws wn hpm b1 b2 b3 hlen
  refine ⟨_, rfl, _, _, rfl, rfl, _, rfl, ?_⟩
  by_cases h3 : way < 3
  · rw [decide_eq_true h3]
    refine ⟨⟨_, rfl⟩, _, rfl, _, rfl, _, rfl, W, _, rfl, SqL.of hW4, fun c1 hc1 => ?_⟩
    rw [cutT]
    have s5 : Same H4 (upd H4 c1 (.lst ((ws.take k).map V.str))) := same_new hc1
    have e5 : upd H4 c1 (.lst ((ws.take k).map V.str)) c1 = some (.lst ((ws.take k).map V.str)) := upd_same
    have n1 := hp4.ne hc1
    generalize upd H4 c1 (.lst ((ws.take k).map V.str)) = H5 at s5 e5 ⊢
    refine ⟨_, rfl, _, rfl, _, rfl, W, _, _, V.str pw, rfl, rfl, SqL.of (s5 _ _ hW4), atI_nat hpv, _, _, rfl, p, f, pw, rfl, rfl, (hp4.same s5).mono (by omega), Nat.le_trans (hws pw hpm).1 hB, fun qw H6 hq hp6 k6 => ⟨(by show 1 ≤ sizeLine; decide), fun c2 hc2 => ?_⟩⟩
    have s7 : Same H6 (upd H6 c2 (.lst [V.str qw])) := same_new hc2
    refine ⟨c1, c2, _, _, rfl, rfl, s7 _ _ (k6 _ _ n1 e5), upd_same, ?_, fun c3 hc3 => ?_⟩
    · rw [List.length_map, List.length_take, List.length_singleton, sizeLine_eq]
      omega
    have s8 := same_new (o := .lst ((ws.take k).map V.str ++ [V.str qw])) hc3
    have e8 := (show upd (upd H6 c2 (.lst [V.str qw])) c3 (.lst ((ws.take k).map V.str ++ [V.str qw])) c3 = _ from upd_same)
    have s68 := s7.trans s8
    generalize upd (upd H6 c2 (.lst [V.str qw])) c3 (.lst ((ws.take k).map V.str ++ [V.str qw])) = H8 at s68 e8 ⊢
    have hW8 := s68 _ _ (k6 _ _ nW (s5 _ _ hW4))
    refine ⟨_, rfl, _, rfl, _, _, rfl, rfl, ((k + 1 : Nat) : Int), rfl, W, _, rfl, SqL.of hW8, fun c4 hc4 => ?_⟩
    rw [SL.cutD]
    have s9 := same_new (o := .lst ((ws.drop (k + 1)).map V.str)) hc4
    refine ⟨c3, c4, _, _, rfl, rfl, s9 _ _ e8, upd_same, ?_, fun c5 hc5 => ?_⟩
    · rw [List.length_append, List.length_map, List.length_map, List.length_take, List.length_drop, List.length_singleton, sizeLine_eq]
      omega
    rw [map3]
    have s10 := s9.trans (same_new (o := .lst ((ws.take k ++ [qw] ++ ws.drop (k + 1)).map V.str)) hc5)
    refine ⟨_, c5, _, rfl, rfl, .inl (SqL.of upd_same), join _ _ ?_ (ext_sub (fun _ h => List.mem_of_mem_take h) (fun _ h => List.mem_of_mem_drop h) wn hq.2) ((hp6.same s68).same s10) (kp4.trans ((Kp.of s5).trans (k6.trans (Kp.of (s68.trans s10)))))⟩
    have := wt_put (k := k) (p := pw) (q := qw) hz (by rw [hwse]; exact hpk) hq.1
    rw [hwse] at this
    exact this
  rw [decide_eq_false h3]
  refine ⟨_, rfl, rfl, _, rfl, ?_⟩
  by_cases h4 : V.int way = V.int 3
  · rw [decide_eq_true h4]
    refine ⟨⟨_, rfl⟩, _, rfl, _, rfl, _, rfl, W, _, rfl, SqL.of hW4, fun c1 hc1 => ?_⟩
    rw [cutT]
    have s5 : Same H4 (upd H4 c1 (.lst ((ws.take k).map V.str))) := same_new hc1
    have e5 : upd H4 c1 (.lst ((ws.take k).map V.str)) c1 = some (.lst ((ws.take k).map V.str)) := upd_same
    have n1 := hp4.ne hc1
    generalize upd H4 c1 (.lst ((ws.take k).map V.str)) = H5 at s5 e5 ⊢
    refine ⟨_, rfl, _, rfl, (by show 2 ≤ sizeLine; decide), fun d1 hd1 => ?_⟩
    have t1 := same_new (o := .lst [V.str "2", V.str "9"]) hd1
    refine ⟨W, d1, _, _, rfl, rfl, t1 _ _ (s5 _ _ hW4), upd_same, ?_, fun d2 hd2 => ?_⟩
    · rw [List.length_map, sizeLine_eq]
      show _ + 2 ≤ _
      omega
    have t2 := t1.trans (same_new (o := .lst (ws.map V.str ++ [V.str "2", V.str "9"])) hd2)
    refine of_q (f := f + 1) ((hp4.same s5).same t2) upd_same (((hp4.same s5).same t1).ne hd2) ?_ ?_ fun x H6 hx hp6 k6 => ?_
    · rw [List.length_append]
      show 0 < _ + 2
      omega
    · rw [List.length_append, List.length_map]
      show _ + 2 ≤ _
      omega
    obtain ⟨qw, rfl, hq1, hq2⟩ : ∃ qw, x = V.str qw ∧ qw.length ≤ B + 1 ∧ 10 ∉ TL.tl qw := by
      rcases List.mem_append.mp hx with hx | hx
      · obtain ⟨y, hy, rfl⟩ := List.mem_map.mp hx
        exact ⟨y, rfl, Nat.le_succ_of_le (hws y hy).1, wn y hy⟩
      · simp only [List.mem_cons, List.not_mem_nil, or_false] at hx
        have g2 : ("2" : Str).length = 1 ∧ 10 ∉ TL.tl "2" := by decide +kernel
        have g9 : ("9" : Str).length = 1 ∧ 10 ∉ TL.tl "9" := by decide +kernel
        rcases hx with rfl | rfl
        · exact ⟨_, rfl, by rw [g2.1]; omega, g2.2⟩
        · exact ⟨_, rfl, by rw [g9.1]; omega, g9.2⟩
    refine ⟨(by show 1 ≤ sizeLine; decide), fun c2 hc2 => ?_⟩
    have s7 : Same H6 (upd H6 c2 (.lst [V.str qw])) := same_new hc2
    have k56 : Kp p H5 H6 := (Kp.of t2).trans k6
    refine ⟨c1, c2, _, _, rfl, rfl, s7 _ _ (k56 _ _ n1 e5), upd_same, ?_, fun c3 hc3 => ?_⟩
    · rw [List.length_map, List.length_take, List.length_singleton, sizeLine_eq]
      omega
    have s8 := same_new (o := .lst ((ws.take k).map V.str ++ [V.str qw])) hc3
    have e8 := (show upd (upd H6 c2 (.lst [V.str qw])) c3 (.lst ((ws.take k).map V.str ++ [V.str qw])) c3 = _ from upd_same)
    have s68 := s7.trans s8
    generalize upd (upd H6 c2 (.lst [V.str qw])) c3 (.lst ((ws.take k).map V.str ++ [V.str qw])) = H8 at s68 e8 ⊢
    have hW8 := s68 _ _ (k56 _ _ nW (s5 _ _ hW4))
    refine ⟨_, rfl, _, rfl, _, rfl, W, _, rfl, SqL.of hW8, fun c4 hc4 => ?_⟩
    rw [SL.cutD]
    have s9 := same_new (o := .lst ((ws.drop k).map V.str)) hc4
    refine ⟨c3, c4, _, _, rfl, rfl, s9 _ _ e8, upd_same, ?_, fun c5 hc5 => ?_⟩
    · rw [List.length_append, List.length_map, List.length_map, List.length_take, List.length_drop, List.length_singleton, sizeLine_eq]
      omega
    rw [map3]
    have s10 := s9.trans (same_new (o := .lst ((ws.take k ++ [qw] ++ ws.drop k).map V.str)) hc5)
    refine ⟨_, c5, _, rfl, rfl, .inl (SqL.of upd_same), join _ _ ?_ (ext_sub (fun _ h => List.mem_of_mem_take h) (fun _ h => List.mem_of_mem_drop h) wn hq2) (((hp6.same s68).same s10).mono (by omega)) (kp4.trans ((Kp.of s5).trans (k56.trans (Kp.of (s68.trans s10)))))⟩
    have := wt_more (k := k) (q := qw) hz hq1
    rw [hwse] at this
    exact this
  rw [decide_eq_false h4]
  refine ⟨_, rfl, rfl, _, rfl, ?_⟩
  by_cases h5 : V.int way = V.int 4
  · rw [decide_eq_true h5]
    refine ⟨⟨_, rfl⟩, _, rfl, _, rfl, _, rfl, W, _, rfl, SqL.of hW4, fun c1 hc1 => ?_⟩
    rw [cutT]
    have s5 : Same H4 (upd H4 c1 (.lst ((ws.take k).map V.str))) := same_new hc1
    have e5 : upd H4 c1 (.lst ((ws.take k).map V.str)) c1 = some (.lst ((ws.take k).map V.str)) := upd_same
    generalize upd H4 c1 (.lst ((ws.take k).map V.str)) = H5 at s5 e5 ⊢
    refine ⟨_, rfl, _, rfl, _, _, rfl, rfl, ((k + 1 : Nat) : Int), rfl, W, _, rfl, SqL.of (s5 _ _ hW4), fun c4 hc4 => ?_⟩
    rw [SL.cutD]
    have s9 := same_new (o := .lst ((ws.drop (k + 1)).map V.str)) hc4
    refine ⟨c1, c4, _, _, rfl, rfl, s9 _ _ e5, upd_same, ?_, fun c5 hc5 => ?_⟩
    · rw [List.length_map, List.length_map, List.length_take, List.length_drop, sizeLine_eq]
      omega
    rw [map2]
    have s10 := s9.trans (same_new (o := .lst ((ws.take k ++ ws.drop (k + 1)).map V.str)) hc5)
    refine ⟨_, c5, _, rfl, rfl, .inl (SqL.of upd_same), join _ _ ?_ (fun z hz => ?_) (((hp4.same s5).same s10).mono (by omega)) (kp4.trans (Kp.of (s5.trans s10)))⟩
    · have := wt_less (k := k) hz
      rw [hwse] at this
      exact this
    · rcases List.mem_append.mp hz with hz | hz
      · exact wn z (List.mem_of_mem_take hz)
      · exact wn z (List.mem_of_mem_drop hz)
  rw [decide_eq_false h5]
  refine ⟨_, rfl, _, rfl, Nat.le_trans (show (" abz0129-_.,:;|!AZ~" : Str).length ≤ 100 by decide +kernel) (by decide), fun c1 hc1 => ?_⟩
  have s5 := same_new (o := .lst (signsL.map V.str)) hc1
  refine of_q (f := f + 1) (hp4.same s5) upd_same (hp4.ne hc1) (by show 0 < (signsL.map V.str).length; rw [List.length_map, signs_ok.1]; decide) (by show (signsL.map V.str).length ≤ _; rw [List.length_map, signs_ok.1]; decide) fun x H6 hx hp6 k6 => ?_
  obtain ⟨y, hy, rfl⟩ := List.mem_map.mp (show x ∈ signsL.map V.str from hx)
  have hy := signs_ok.2 y hy
  have zs : z.length ≤ sizeLine := Nat.le_trans (show z.length ≤ 1000 by omega) (by decide)
  have l1 := cutS_length z none (some (j : Int))
  refine ⟨_, rfl, _, rfl, _, rfl, z, rfl, zs, _, rfl, _, _, rfl, rfl, ?_, _, rfl, _, rfl, _, rfl, take_q (f := f) hp6 (by decide) (by decide) fun g H7 g0 g1 hp7 k7 => ?_⟩
  · rw [sizeLine_eq]
    omega
  obtain ⟨g, rfl⟩ := Int.eq_ofNat_of_zero_le g0
  have l2 := cutS_length z (some ((j + g : Nat) : Int)) none
  refine ⟨_, _, rfl, rfl, ((j + g : Nat) : Int), rfl, z, rfl, zs, _, _, rfl, rfl, ?_, ?_⟩
  · rw [sizeLine_eq, len_app]
    omega
  · exact q _ H7 (ln_sign (k := j) (j := j + g) hz hy (by omega)) hp7 (kp4.trans ((Kp.of s5).trans (k6.trans k7)))
end
end SK

set_option maxHeartbeats 4000000
namespace SL
open PySem PySem.Spec PyProof.Rows L2 TL
def someL : List Str := ["", "zooms 3", "class x 0 1 2 3", "beside x x", "far x x 5", "label x", " "]
theorem someL_ok : ∀ z ∈ someL, z.length ≤ 15 ∧ 10 ∉ tl z := by decide +kernel
def spSpoil : Sp := sp2 fun a b H Q _ => ∃ (p L : Addr) (f B : Nat) (ls : List Str), a = .ref p ∧ b = .ref L ∧ Pt p (f + 8) H ∧ H L = some (.lst (ls.map V.str)) ∧ L ≠ p ∧ ls.length ≤ 100 ∧ (∀ z ∈ ls, Ln B z) ∧ 20 ≤ B ∧ B ≤ 570 ∧
  ∀ (L' : Addr) (ls' : List Str) (H' : Hp), Pt p f H' → Kp p H H' → H' L' = some (.lst (ls'.map V.str)) → L' ≠ p → ls'.length ≤ ls.length + 2 → (∀ z ∈ ls', Ln (2 * B + 14) z) → Q (.ref L') H'
theorem all3 {P : Str → Prop} {a b : List Str} {q : Str} (ha : ∀ z ∈ a, P z) (hb : ∀ z ∈ b, P z) (hq : P q) : ∀ z ∈ a ++ [q] ++ b, P z := fun z hz => by
  rw [List.append_assoc] at hz
  rcases List.mem_append.mp hz with hz | hz
  · exact ha z hz
  · rcases List.mem_append.mp hz with hz | hz
    · rw [List.mem_singleton] at hz
      rw [hz]
      exact hq
    · exact hb z hz
end SL
namespace SK
open PySem PySem.Spec PyProof.Rows L2 SL
section
variable {w : World} {K : PySem.W.Frag} {mg : Str → Option Value} {base : Heap}
abbrev n_law_spoilt : List Str := ["_law_pot_here", "_law_lines", "_law_found", "_law_way", "_law_at", "_law_to", "_law_some"]
theorem sc_law_spoilt : FnScope n_law_spoilt ["_law_pot_here", "_law_lines"] (defScope d_law_spoilt) := ⟨rfl, rfl, rfl, by decide +kernel, rfl, by decide +kernel, by decide +kernel⟩
theorem ok_law_spoilt (T : Top w K mg) : Has prg w K mg base CX0 5 (He.ga K "_law_spoilt") ["_law_pot_here", "_law_lines"] spSpoil := by
  obtain ⟨fd, F⟩ := T.F_law_spoilt
  obtain ⟨fd_law_take, G_law_take, b_law_take, k_law_take⟩ := ok_law_take (base := base) T
  obtain ⟨fd_law_of, G_law_of, b_law_of, k_law_of⟩ := ok_law_of (base := base) T
  obtain ⟨fd_law_line_spoilt, G_law_line_spoilt, b_law_line_spoilt, k_law_line_spoilt⟩ := ok_law_line_spoilt (base := base) T
  refine ⟨fd, F.ok (k := 4) sc_law_spoilt (fun _ _ _ _ h => sp2_len h) (fun cdv A outer s H vs Q E hr h => ?_), F.bindsN (fun _ _ _ _ _ _ us hl => match us, hl with | [_, _], _ => rfl), F.kp⟩
  obtain ⟨v0, v1, rfl, h⟩ := h
  refine ⟨_, PSs.nox (pss_cons (ps_par (i := 2) (j := 3) (by rfl) sc_law_spoilt.nd rfl rfl (by decide) rfl rfl (pa_cons (pe_ifExp (pt_cmpR (op_neNil hr.units) (pv 1) (pe_lst pa_nil) (nomark _)) (pe_callTy call_list_of (by rfl) T.b_list boot_list (pa_cons (pv 1) pa_nil)) (pe_lst (pa_cons pe_str pa_nil))) (pa_cons (pe_call G_law_take (hr.mono (by decide)) (by rfl) T.g_law_take k_law_take b_law_take .nil pass0 (pa_cons (pv 0) (pa_cons pe_int pa_nil))) pa_nil)) (by rfl))
    (pss_cons (ps_par (i := 4) (j := 5) (by rfl) sc_law_spoilt.nd rfl rfl (by decide) rfl rfl (pa_cons (pe_call G_law_take (hr.mono (by decide)) (by rfl) T.g_law_take k_law_take b_law_take .nil pass0 (pa_cons (pv 0) (pa_cons (pe_callB call_len (by rfl) T.b_len (by decide +kernel) (pa_cons (pv 2) pa_nil)) pa_nil))) (pa_cons (pe_call G_law_take (hr.mono (by decide)) (by rfl) T.g_law_take k_law_take b_law_take .nil pass0 (pa_cons (pv 0) (pa_cons (pe_callB call_len (by rfl) T.b_len (by decide +kernel) (pa_cons (pv 2) pa_nil)) pa_nil))) pa_nil)) (by rfl))
    (pss_cons (ps_if (pt_cmpR op_eq (pv 3) pe_int (nomark _)) (pss_one (ps_ret (pe_op op_cat (pe_slice sl_list (pv 2) po_none (po_some (pv 4))) (pe_slice sl_list (pv 2) (po_some (pe_op op_add (pv 4) pe_int)) po_none)))) pss_nil)
    (pss_cons (ps_if (pt_cmpR op_eq (pv 3) pe_int (nomark _)) (pss_one (ps_ret (pe_op op_cat (pe_op op_cat (pe_slice sl_list (pv 2) po_none (po_some (pv 5))) (pe_lst (pa_cons (pe_ix ix_list (pv 2) (pv 4) (fun _ _ => rfl)) pa_nil))) (pe_slice sl_list (pv 2) (po_some (pv 5)) po_none)))) pss_nil)
    (pss_cons (ps_if (pt_cmpR op_eq (pv 3) pe_int (nomark _)) (pss_one (ps_ret (pe_op op_cat (pe_op op_cat (pe_slice sl_list (pv 2) po_none (po_some (pv 4))) (pe_lst (pa_cons (pe_ix ix_list (pv 2) (pv 5) (fun _ _ => rfl)) pa_nil))) (pe_slice sl_list (pv 2) (po_some (pe_op op_add (pv 4) pe_int)) po_none)))) pss_nil)
    (pss_cons (ps_if (pt_cmpR op_eq (pv 3) pe_int (nomark _)) (pss_one (ps_ret (pe_slice sl_list (pv 2) po_none (po_some (pv 4))))) pss_nil)
    (pss_cons (ps_if (pt_cmpR op_eq (pv 3) pe_int (nomark _)) (pss_cons (ps_set (i := 6) sc_law_spoilt.nd rfl (Or.inl rfl) (pe_lst (pa_cons pe_str (pa_cons pe_str (pa_cons pe_str (pa_cons pe_str (pa_cons pe_str (pa_cons pe_str (pa_cons pe_str pa_nil)))))))))
    (pss_one (ps_ret (pe_op op_cat (pe_op op_cat (pe_slice sl_list (pv 2) po_none (po_some (pv 4))) (pe_lst (pa_cons (pe_call G_law_of (hr.mono (by decide)) (by rfl) T.g_law_of k_law_of b_law_of .nil pass0 (pa_cons (pv 0) (pa_cons (pv 6) pa_nil))) pa_nil))) (pe_slice sl_list (pv 2) (po_some (pv 4)) po_none))))) pss_nil)
    (pss_one (ps_ret (pe_op op_cat (pe_op op_cat (pe_slice sl_list (pv 2) po_none (po_some (pv 4))) (pe_lst (pa_cons (pe_call G_law_line_spoilt (hr.mono (by decide)) (by rfl) T.g_law_line_spoilt k_law_line_spoilt b_law_line_spoilt .nil pass0 (pa_cons (pv 0) (pa_cons (pe_ix ix_list (pv 2) (pv 4) (fun _ _ => rfl)) pa_nil))) pa_nil))) (pe_slice sl_list (pv 2) (po_some (pe_op op_add (pv 4) pe_int)) po_none))))))))))), ?_⟩
  obtain ⟨p, L, f, B, ls, rfl, rfl, hp, hL, nL, hln, hB, hB1, hB2, q⟩ := h
  refine ⟨_, rfl, (by show 0 ≤ sizeLine; decide), fun e he => ⟨L, e, _, rfl, rfl, SqL.of (same_new he _ _ hL), upd_same, _, rfl, ?_⟩⟩
  have s1 := same_new (o := .lst []) he
  generalize upd H e (.lst []) = H1 at s1 ⊢
  have hL1 := s1 _ _ hL
  have hp1 := hp.same s1
  by_cases hnil : ls = []
  case' pos =>
    rw [show (!(ls.map V.str).isEmpty) = false by rw [hnil]; rfl]
    refine ⟨(by show 1 ≤ sizeLine; decide), fun F hF => ?_⟩
    have s2 : Same H1 (upd H1 F (.lst (([""] : List Str).map V.str))) := same_new hF
    have hF2 : upd H1 F (.lst (([""] : List Str).map V.str)) F = some (.lst (([""] : List Str).map V.str)) := upd_same
    have hfn : ([""] : List Str) ≠ [] := by simp
    have hfl : ([""] : List Str).length ≤ ls.length + 1 := by simp
    have hfz : ∀ z ∈ ([""] : List Str), Ln B z := fun z hz => by
      rw [List.mem_singleton] at hz
      rw [hz]
      exact ⟨Nat.zero_le _, by decide +kernel⟩
    show tCons _ _ _ (upd H1 F (.lst (([""] : List Str).map V.str))) _
    generalize ([""] : List Str) = fs at s2 hF2 hfn hfl hfz ⊢
  case' neg =>
    rw [show (!(ls.map V.str).isEmpty) = true by cases ls with
      | nil => exact absurd rfl hnil
      | cons _ _ => rfl]
    refine ⟨_, rfl, L, _, rfl, .inl (SqL.of hL1), fun F hF => ?_⟩
    have s2 : Same H1 (upd H1 F (.lst (ls.map V.str))) := same_new hF
    have hF2 : upd H1 F (.lst (ls.map V.str)) F = some (.lst (ls.map V.str)) := upd_same
    have hfn : ls ≠ [] := hnil
    have hfl : ls.length ≤ ls.length + 1 := Nat.le_succ _
    have hfz := hB
    obtain ⟨fs, efs⟩ : ∃ fs, fs = ls := ⟨_, rfl⟩
    rw [← efs] at s2 hF2 hfn hfz ⊢
    replace hfl : fs.length ≤ ls.length + 1 := by rw [efs]; exact hfl
  all_goals
    have nF := hp1.ne hF
    generalize upd H1 F (.lst (fs.map V.str)) = H2 at s2 hF2 ⊢
    have s02 := s1.trans s2
    have hfp : 0 < fs.length := List.length_pos_iff.mpr hfn
    refine ⟨_, rfl, take_q (f := f + 7) (hp.same s02) (by decide) (by decide) fun way H3 w0 w1 hp3 k3 => ⟨_, _, rfl, ?_⟩⟩
    have hF3 := k3 _ _ nF hF2
    refine ⟨_, rfl, _, rfl, _, fs.length, rfl, .inl ⟨_, SqL.of hF3, by rw [List.length_map]⟩, take_q (f := f + 6) hp3 (by omega) (by omega) fun at' H4 a0 a1 hp4 k4 => ?_⟩
    obtain ⟨k, rfl⟩ := Int.eq_ofNat_of_zero_le a0
    have hF4 := k4 _ _ nF hF3
    refine ⟨_, rfl, _, rfl, _, fs.length, rfl, .inl ⟨_, SqL.of hF4, by rw [List.length_map]⟩, take_q (f := f + 5) hp4 (by omega) (by omega) fun to' H5 b0 b1 hp5 k5 => ⟨_, _, rfl, ?_⟩⟩
    obtain ⟨m, rfl⟩ := Int.eq_ofNat_of_zero_le b0
    have hF5 := k5 _ _ nF hF4
    have kp5 : Kp p H H5 := (((Kp.of s02).trans k3).trans k4).trans k5
    clear k3 k4 k5 hF2 hF3 hF4 hp3 hp4 s02 s1 s2 hp hp1
    have hk : k < fs.length := by omega
    have hm : m < fs.length := by omega
    have big : ∀ z ∈ fs, Ln (2 * B + 14) z := fun z hz => (hfz z hz).mono (by omega)
    refine ⟨_, rfl, rfl, _, rfl, ?_⟩
    by_cases g0 : V.int way = V.int 0
    · rw [decide_eq_true g0]
      refine ⟨_, rfl, _, rfl, _, rfl, F, _, rfl, SqL.of hF5, fun c1 hc1 => ?_⟩
      rw [cutT]
      have s6 : Same H5 (upd H5 c1 (.lst ((fs.take k).map V.str))) := same_new hc1
      have e6 : upd H5 c1 (.lst ((fs.take k).map V.str)) c1 = some (.lst ((fs.take k).map V.str)) := upd_same
      have n1 := hp5.ne hc1
      generalize upd H5 c1 (.lst ((fs.take k).map V.str)) = H6 at s6 e6 ⊢
      refine ⟨_, rfl, _, rfl, _, _, rfl, rfl, ((k + 1 : Nat) : Int), rfl, F, _, rfl, SqL.of (s6 _ _ hF5), fun c4 hc4 => ?_⟩
      rw [SL.cutD]
      have s9 := same_new (o := .lst ((fs.drop (k + 1)).map V.str)) hc4
      refine ⟨c1, c4, _, _, rfl, rfl, s9 _ _ e6, upd_same, ?_, fun c5 hc5 => ?_⟩
      · rw [List.length_map, List.length_map, List.length_take, List.length_drop, sizeLine_eq]
        omega
      rw [map2]
      have s10 := s9.trans (same_new (o := .lst ((fs.take k ++ fs.drop (k + 1)).map V.str)) hc5)
      refine q c5 _ _ (((hp5.same s6).same s10).mono (by omega)) (kp5.trans (Kp.of (s6.trans s10))) upd_same (((hp5.same s6).same s9).ne hc5) ?_ (fun z hz => ?_)
      · rw [List.length_append, List.length_take, List.length_drop]
        omega
      · rcases List.mem_append.mp hz with hz | hz
        · exact big z (List.mem_of_mem_take hz)
        · exact big z (List.mem_of_mem_drop hz)
    rw [decide_eq_false g0]
    refine ⟨_, rfl, rfl, _, rfl, ?_⟩
    by_cases g1 : V.int way = V.int 1
    · rw [decide_eq_true g1]
      refine ⟨_, rfl, _, rfl, _, rfl, F, _, rfl, SqL.of hF5, fun c1 hc1 => ?_⟩
      rw [cutT]
      have s6 : Same H5 (upd H5 c1 (.lst ((fs.take m).map V.str))) := same_new hc1
      have e6 : upd H5 c1 (.lst ((fs.take m).map V.str)) c1 = some (.lst ((fs.take m).map V.str)) := upd_same
      have n1 := hp5.ne hc1
      generalize upd H5 c1 (.lst ((fs.take m).map V.str)) = H6 at s6 e6 ⊢
      obtain ⟨qw, hqk, hqm, hqv⟩ := get_str hk
      refine ⟨_, rfl, _, rfl, F, _, _, V.str qw, rfl, rfl, SqL.of (s6 _ _ hF5), atI_nat hqv, ?_⟩
      have hqn := big qw hqm
      have k67 : Kp p H6 H6 := Kp.refl _ _
      have hp7 : Pt p f H6 := (hp5.same s6).mono (by omega)
      obtain ⟨H7, e7⟩ : ∃ H7, H7 = H6 := ⟨_, rfl⟩
      replace k67 : Kp p H6 H7 := by rw [e7]; exact k67
      replace hp7 : Pt p f H7 := by rw [e7]; exact hp7
      rw [← e7]
      refine ⟨(by show 1 ≤ sizeLine; decide), fun c2 hc2 => ?_⟩
      have s7 : Same H7 (upd H7 c2 (.lst [V.str qw])) := same_new hc2
      refine ⟨c1, c2, _, _, rfl, rfl, s7 _ _ (k67 _ _ n1 e6), upd_same, ?_, fun c3 hc3 => ?_⟩
      · rw [List.length_map, List.length_take, List.length_singleton, sizeLine_eq]
        omega
      have s8 := same_new (o := .lst ((fs.take m).map V.str ++ [V.str qw])) hc3
      have e8 := (show upd (upd H7 c2 (.lst [V.str qw])) c3 (.lst ((fs.take m).map V.str ++ [V.str qw])) c3 = _ from upd_same)
      have s78 := s7.trans s8
      generalize upd (upd H7 c2 (.lst [V.str qw])) c3 (.lst ((fs.take m).map V.str ++ [V.str qw])) = H8 at s78 e8 ⊢
      have hF8 := s78 _ _ (k67 _ _ nF (s6 _ _ hF5))
      refine ⟨_, rfl, _, rfl, _, rfl, F, _, rfl, SqL.of hF8, fun c4 hc4 => ?_⟩
      rw [SL.cutD]
      have s9 := same_new (o := .lst ((fs.drop (m)).map V.str)) hc4
      refine ⟨c3, c4, _, _, rfl, rfl, s9 _ _ e8, upd_same, ?_, fun c5 hc5 => ?_⟩
      · rw [List.length_append, List.length_map, List.length_map, List.length_take, List.length_drop, List.length_singleton, sizeLine_eq]
        omega
      rw [map3]
      have s10 := s9.trans (same_new (o := .lst ((fs.take m ++ [qw] ++ fs.drop (m)).map V.str)) hc5)
      refine q c5 _ _ ((hp7.same s78).same s10) (kp5.trans ((Kp.of s6).trans (k67.trans (Kp.of (s78.trans s10))))) upd_same (((hp7.same s78).same s9).ne hc5) ?_ (all3 (fun z hz => big z (List.mem_of_mem_take hz)) (fun z hz => big z (List.mem_of_mem_drop hz)) hqn)
      rw [List.length_append, List.length_append, List.length_take, List.length_drop, List.length_singleton]
      omega
    rw [decide_eq_false g1]
    refine ⟨_, rfl, rfl, _, rfl, ?_⟩
    by_cases g2 : V.int way = V.int 2
    · rw [decide_eq_true g2]
      refine ⟨_, rfl, _, rfl, _, rfl, F, _, rfl, SqL.of hF5, fun c1 hc1 => ?_⟩
      rw [cutT]
      have s6 : Same H5 (upd H5 c1 (.lst ((fs.take k).map V.str))) := same_new hc1
      have e6 : upd H5 c1 (.lst ((fs.take k).map V.str)) c1 = some (.lst ((fs.take k).map V.str)) := upd_same
      have n1 := hp5.ne hc1
      generalize upd H5 c1 (.lst ((fs.take k).map V.str)) = H6 at s6 e6 ⊢
      obtain ⟨qw, hqk, hqm, hqv⟩ := get_str hm
      refine ⟨_, rfl, _, rfl, F, _, _, V.str qw, rfl, rfl, SqL.of (s6 _ _ hF5), atI_nat hqv, ?_⟩
      have hqn := big qw hqm
      have k67 : Kp p H6 H6 := Kp.refl _ _
      have hp7 : Pt p f H6 := (hp5.same s6).mono (by omega)
      obtain ⟨H7, e7⟩ : ∃ H7, H7 = H6 := ⟨_, rfl⟩
      replace k67 : Kp p H6 H7 := by rw [e7]; exact k67
      replace hp7 : Pt p f H7 := by rw [e7]; exact hp7
      rw [← e7]
      refine ⟨(by show 1 ≤ sizeLine; decide), fun c2 hc2 => ?_⟩
      have s7 : Same H7 (upd H7 c2 (.lst [V.str qw])) := same_new hc2
      refine ⟨c1, c2, _, _, rfl, rfl, s7 _ _ (k67 _ _ n1 e6), upd_same, ?_, fun c3 hc3 => ?_⟩
      · rw [List.length_map, List.length_take, List.length_singleton, sizeLine_eq]
        omega
      have s8 := same_new (o := .lst ((fs.take k).map V.str ++ [V.str qw])) hc3
      have e8 := (show upd (upd H7 c2 (.lst [V.str qw])) c3 (.lst ((fs.take k).map V.str ++ [V.str qw])) c3 = _ from upd_same)
      have s78 := s7.trans s8
      generalize upd (upd H7 c2 (.lst [V.str qw])) c3 (.lst ((fs.take k).map V.str ++ [V.str qw])) = H8 at s78 e8 ⊢
      have hF8 := s78 _ _ (k67 _ _ nF (s6 _ _ hF5))
      refine ⟨_, rfl, _, rfl, _, _, rfl, rfl, ((k + 1 : Nat) : Int), rfl, F, _, rfl, SqL.of hF8, fun c4 hc4 => ?_⟩
      rw [SL.cutD]
      have s9 := same_new (o := .lst ((fs.drop (k + 1)).map V.str)) hc4
      refine ⟨c3, c4, _, _, rfl, rfl, s9 _ _ e8, upd_same, ?_, fun c5 hc5 => ?_⟩
      · rw [List.length_append, List.length_map, List.length_map, List.length_take, List.length_drop, List.length_singleton, sizeLine_eq]
        omega
      rw [map3]
      have s10 := s9.trans (same_new (o := .lst ((fs.take k ++ [qw] ++ fs.drop (k + 1)).map V.str)) hc5)
      refine q c5 _ _ ((hp7.same s78).same s10) (kp5.trans ((Kp.of s6).trans (k67.trans (Kp.of (s78.trans s10))))) upd_same (((hp7.same s78).same s9).ne hc5) ?_ (all3 (fun z hz => big z (List.mem_of_mem_take hz)) (fun z hz => big z (List.mem_of_mem_drop hz)) hqn)
      rw [List.length_append, List.length_append, List.length_take, List.length_drop, List.length_singleton]
      omega
    rw [decide_eq_false g2]
    refine ⟨_, rfl, rfl, _, rfl, ?_⟩
    by_cases g3 : V.int way = V.int 3
    · rw [decide_eq_true g3]
      refine ⟨_, rfl, _, rfl, _, rfl, F, _, rfl, SqL.of hF5, fun c1 hc1 => ?_⟩
      rw [cutT]
      have s6 : Same H5 (upd H5 c1 (.lst ((fs.take k).map V.str))) := same_new hc1
      have e6 : upd H5 c1 (.lst ((fs.take k).map V.str)) c1 = some (.lst ((fs.take k).map V.str)) := upd_same
      have n1 := hp5.ne hc1
      refine q c1 _ _ ((hp5.same s6).mono (by omega)) (kp5.trans (Kp.of s6)) e6 n1 ?_ (fun z hz => big z (List.mem_of_mem_take hz))
      rw [List.length_take]
      omega
    rw [decide_eq_false g3]
    refine ⟨_, rfl, rfl, _, rfl, ?_⟩
    by_cases g4 : V.int way = V.int 4
    · rw [decide_eq_true g4]
      refine ⟨(by show 7 ≤ sizeLine; decide), fun S hS => ?_⟩
      have sS : Same H5 (upd H5 S (.lst (someL.map V.str))) := same_new hS
      have hS5 : upd H5 S (.lst (someL.map V.str)) S = some (.lst (someL.map V.str)) := upd_same
      have nS := hp5.ne hS
      replace hp5 := hp5.same sS
      replace kp5 := kp5.trans (Kp.of sS)
      replace hF5 := sS _ _ hF5
      show gName 6 _ _ (upd H5 S (.lst (someL.map V.str))) _
      generalize upd H5 S (.lst (someL.map V.str)) = H5 at sS hS5 hp5 kp5 hF5 ⊢
      refine ⟨_, rfl, _, rfl, _, rfl, F, _, rfl, SqL.of hF5, fun c1 hc1 => ?_⟩
      rw [cutT]
      have s6 : Same H5 (upd H5 c1 (.lst ((fs.take k).map V.str))) := same_new hc1
      have e6 : upd H5 c1 (.lst ((fs.take k).map V.str)) c1 = some (.lst ((fs.take k).map V.str)) := upd_same
      have n1 := hp5.ne hc1
      generalize upd H5 c1 (.lst ((fs.take k).map V.str)) = H6 at s6 e6 ⊢
      refine ⟨_, rfl, _, rfl, of_q (f := f) ((hp5.same s6).mono (by omega)) (s6 _ _ hS5) nS (by show 0 < 7; decide) (by show 7 ≤ 1000000; decide) fun x H7 hx hp7 k67 => ?_⟩
      obtain ⟨qw, hy, rfl⟩ := List.mem_map.mp (show x ∈ someL.map V.str from hx)
      have hy := someL_ok qw hy
      have hqn : Ln (2 * B + 14) qw := ⟨by omega, hy.2⟩
      refine ⟨(by show 1 ≤ sizeLine; decide), fun c2 hc2 => ?_⟩
      have s7 : Same H7 (upd H7 c2 (.lst [V.str qw])) := same_new hc2
      refine ⟨c1, c2, _, _, rfl, rfl, s7 _ _ (k67 _ _ n1 e6), upd_same, ?_, fun c3 hc3 => ?_⟩
      · rw [List.length_map, List.length_take, List.length_singleton, sizeLine_eq]
        omega
      have s8 := same_new (o := .lst ((fs.take k).map V.str ++ [V.str qw])) hc3
      have e8 := (show upd (upd H7 c2 (.lst [V.str qw])) c3 (.lst ((fs.take k).map V.str ++ [V.str qw])) c3 = _ from upd_same)
      have s78 := s7.trans s8
      generalize upd (upd H7 c2 (.lst [V.str qw])) c3 (.lst ((fs.take k).map V.str ++ [V.str qw])) = H8 at s78 e8 ⊢
      have hF8 := s78 _ _ (k67 _ _ nF (s6 _ _ hF5))
      refine ⟨_, rfl, _, rfl, _, rfl, F, _, rfl, SqL.of hF8, fun c4 hc4 => ?_⟩
      rw [SL.cutD]
      have s9 := same_new (o := .lst ((fs.drop (k)).map V.str)) hc4
      refine ⟨c3, c4, _, _, rfl, rfl, s9 _ _ e8, upd_same, ?_, fun c5 hc5 => ?_⟩
      · rw [List.length_append, List.length_map, List.length_map, List.length_take, List.length_drop, List.length_singleton, sizeLine_eq]
        omega
      rw [map3]
      have s10 := s9.trans (same_new (o := .lst ((fs.take k ++ [qw] ++ fs.drop (k)).map V.str)) hc5)
      refine q c5 _ _ ((hp7.same s78).same s10) (kp5.trans ((Kp.of s6).trans (k67.trans (Kp.of (s78.trans s10))))) upd_same (((hp7.same s78).same s9).ne hc5) ?_ (all3 (fun z hz => big z (List.mem_of_mem_take hz)) (fun z hz => big z (List.mem_of_mem_drop hz)) hqn)
      rw [List.length_append, List.length_append, List.length_take, List.length_drop, List.length_singleton]
      omega
    rw [decide_eq_false g4]
    refine ⟨_, rfl, _, rfl, _, rfl, F, _, rfl, SqL.of hF5, fun c1 hc1 => ?_⟩
    rw [cutT]
    have s6 : Same H5 (upd H5 c1 (.lst ((fs.take k).map V.str))) := same_new hc1
    have e6 : upd H5 c1 (.lst ((fs.take k).map V.str)) c1 = some (.lst ((fs.take k).map V.str)) := upd_same
    have n1 := hp5.ne hc1
    generalize upd H5 c1 (.lst ((fs.take k).map V.str)) = H6 at s6 e6 ⊢
    obtain ⟨pw, hqk, hqm, hqv⟩ := get_str hk
    refine ⟨_, rfl, _, rfl, _, rfl, F, _, _, V.str pw, rfl, rfl, SqL.of (s6 _ _ hF5), atI_nat hqv, _, _, rfl, p, f, B, pw, rfl, rfl, hp5.same s6, hfz pw hqm, hB2, fun qw H7 hqn hp7 k67 => ?_⟩
    refine ⟨(by show 1 ≤ sizeLine; decide), fun c2 hc2 => ?_⟩
    have s7 : Same H7 (upd H7 c2 (.lst [V.str qw])) := same_new hc2
    refine ⟨c1, c2, _, _, rfl, rfl, s7 _ _ (k67 _ _ n1 e6), upd_same, ?_, fun c3 hc3 => ?_⟩
    · rw [List.length_map, List.length_take, List.length_singleton, sizeLine_eq]
      omega
    have s8 := same_new (o := .lst ((fs.take k).map V.str ++ [V.str qw])) hc3
    have e8 := (show upd (upd H7 c2 (.lst [V.str qw])) c3 (.lst ((fs.take k).map V.str ++ [V.str qw])) c3 = _ from upd_same)
    have s78 := s7.trans s8
    generalize upd (upd H7 c2 (.lst [V.str qw])) c3 (.lst ((fs.take k).map V.str ++ [V.str qw])) = H8 at s78 e8 ⊢
    have hF8 := s78 _ _ (k67 _ _ nF (s6 _ _ hF5))
    refine ⟨_, rfl, _, rfl, _, _, rfl, rfl, ((k + 1 : Nat) : Int), rfl, F, _, rfl, SqL.of hF8, fun c4 hc4 => ?_⟩
    rw [SL.cutD]
    have s9 := same_new (o := .lst ((fs.drop (k + 1)).map V.str)) hc4
    refine ⟨c3, c4, _, _, rfl, rfl, s9 _ _ e8, upd_same, ?_, fun c5 hc5 => ?_⟩
    · rw [List.length_append, List.length_map, List.length_map, List.length_take, List.length_drop, List.length_singleton, sizeLine_eq]
      omega
    rw [map3]
    have s10 := s9.trans (same_new (o := .lst ((fs.take k ++ [qw] ++ fs.drop (k + 1)).map V.str)) hc5)
    refine q c5 _ _ ((hp7.same s78).same s10) (kp5.trans ((Kp.of s6).trans (k67.trans (Kp.of (s78.trans s10))))) upd_same (((hp7.same s78).same s9).ne hc5) ?_ (all3 (fun z hz => big z (List.mem_of_mem_take hz)) (fun z hz => big z (List.mem_of_mem_drop hz)) hqn)
    rw [List.length_append, List.length_append, List.length_take, List.length_drop, List.length_singleton]
    omega
end
end SK

set_option maxHeartbeats 4000000
/-! C(..) within a try: its __init__ may raise -/
namespace SL
open PySem PySem.Spec PyProof.Rows L2
def tMakeS (C : Addr) (sp : Sp) (E : L2.St → XK) (t : TA) : TE := fun σ H Q => t σ H fun vs H1 => ∀ x dx, H1 x = none → H1 dx = none → dx ≠ x →
  sp (.ref x :: vs) (upd (upd H1 dx (.own x)) x (.ins C dx [])) (fun v H2 => v = .non ∧ Q (.ref x) H2) (E σ)
section
variable {X : Cx} {CX : CXT} {k : Nat} {f C : Addr} {fd : FuncData} {ps : List Str} {sp : Sp} {E : L2.St → XK} {x : Str} {p pos : Pos} {e : Expr} {es : List Expr} {t : TA}
theorem pe_makeS (M : Mk X.K C f) (F : FnOk X.prog X.w X.K X.mg X.base CX k f fd ps sp) (hr : Room (k + 1) X.A) (hg : Gl X x) (hm : X.mg x = some (.ref C)) (hb : Binds X.K fd ps []) (hx : ∀ σ, PassesAt CX X σ (E σ)) (ha : PA X (e :: es) t)
    (hdb : (x == ("__debug__" : Str)) = false := by decide) (he : starEach (e :: es) X.env = (false, eval e X.env) :: starEach es X.env := by rfl) (hpl : (backTo pos (starEach es X.env)).any (·.1) = false := by rfl) :
    PE X (.Call (.Name x p) (e :: es) [] pos) (tMakeS C sp E t) := by
  constructor
  intro pins s σ H Q I h
  refine wpAny_Call_Name_kw (ld_glob I hg hm (PySem.W.callWith_K (h₀ := X.base) I.ok.mod.kin M.kp (thn (ha.run pos pins s σ H _ I h) fun us s1 z => ?_) he hpl) hdb)
  obtain ⟨vs, H1, I1, r, q⟩ := z
  refine ⟨I1.kIn, ?_⟩
  let n := s1.heap.objs.size
  have hq := q (n + 1) n (I1.hok.fresh (Nat.le_succ _)) (I1.hok.fresh (Nat.le_refl _)) (Nat.ne_of_lt (Nat.lt_succ_self _))
  have I2 := Inv.made (C := C) I1
  have r2 : Vals (V.ref (n + 1) :: vs) (Value.ref (n + 1) :: us) := .cons rfl r
  have hl : (Value.ref (n + 1) :: us).length = ps.length := by rw [← r2.length]; exact F.len _ _ _ _ hq
  have b2 := hb _ (Value.ref (n + 1) :: us) I2.kIn (by rw [List.append_nil]; exact hl)
  rw [List.append_nil] at b2
  have go := F.run _ X.stack _ _ ⟨Value.ref (n + 1) :: us, []⟩ (Value.ref (n + 1) :: us) _ _ (E σ) (hr.make C us []) (I2.env0.make C us []) b2 r2 hq
  refine wpAny_call (make_map (f := f) I1.kIn M.makes M.init (beq_iff_eq.mp M.fn) (codeAny_mono go fun o s' z => ?_))
  cases o with
  | error u => exact hx σ pins _ _ u s' I2 z
  | ok fl => cases fl with
    | ret u =>
      obtain ⟨v, H', I3, rv, rfl, q3⟩ := I2.after z
      exact ⟨rv, V.ref (n + 1), H', I3, rfl, q3⟩
    | next => exact z.elim
    | brk => exact z.elim
    | cont => exact z.elim
end
end SL
set_option maxHeartbeats 4000000
namespace SL
open PySem PySem.Spec PyProof.Rows L2 TL
theorem takesNo {X : Cx} : Takes X (fun _ _ _ _ => False) := fun _ _ z => by
  obtain ⟨_, _, _, _, _, _, _, _, _, _, _, _, _, _, _, _, z⟩ := z
  exact z.elim
theorem fwL_le : ∀ (ls : List Str) (s : FW) (n m : Nat), fwL s n ls = .error m → n < m ∧ m ≤ n + ls.length
  | [], s, n, m, h => by cases h
  | z :: zs, s, n, m, h => by
    cases e : fwStep s (Txt.split z " ") with
    | none =>
      rw [fwL_none e] at h
      cases h
      rw [List.length_cons]
      omega
    | some s' =>
      rw [fwL_some e] at h
      have := fwL_le zs s' (n + 1) m h
      rw [List.length_cons]
      omega
theorem fwNum_le (ls : List Str) : fwNum ls ≤ ls.length + 1 := by
  unfold fwNum
  split
  · rename_i h
    have := fwL_le _ _ _ _ h
    omega
  · split <;> omega
section
variable {K : PySem.W.Frag}
theorem clsSome {D fI C : Addr} (T : ErrC K D fI C) : (PySem.W.clsIn K C).isSome = true := by
  obtain ⟨cd, hc, _⟩ := PySem.W.any_some T.hdC
  rw [hc]
  rfl
theorem isSelf {C : Addr} : PySem.W.kitOne K (.ref C) (.ref C) = some true := by
  unfold PySem.W.kitOne
  rw [beq_self_eq_true, if_pos rfl]
theorem isVal {D fI C : Addr} (T : ErrC K D fI C) : PySem.W.kitOne K (.ref C) (.type "ValueError") = some true := by
  have e1 : (Value.ref C == Value.type "ValueError") = false := rfl
  have e2 : PySem.W.kitMeta "ValueError" = true := by decide +kernel
  unfold PySem.W.kitOne
  rw [e1, if_neg Bool.false_ne_true]
  unfold PySem.W.kitCls
  dsimp only
  rw [e2, if_pos rfl]
  exact T.vaC
theorem caughtBy {D fI C : Addr} (T : ErrC K D fI C) (TD : ErrC K D fI D) : PySem.W.exmOne K (.ref C) (.ref D) = some true := by
  have hc : PySem.W.kitCls K (.ref C) (.ref D) = some true := by
    unfold PySem.W.kitCls
    dsimp only
    rw [clsSome TD, TD.tyC, if_pos (by rw [beq_self_eq_true, Bool.and_self])]
    have := T.mD
    unfold PySem.W.subIn
    exact this
  unfold PySem.W.exmOne
  rw [TD.exC, if_pos (by decide)]
  exact hc
end
end SL
namespace SK
open PySem PySem.Spec PyProof.Rows L2 SL
section
variable {w : World} {K : PySem.W.Frag} {mg : Str → Option Value} {base : Heap}
def spTold (K : PySem.W.Frag) : Sp := sp1 fun v H Q _ => (∃ n, Kn H v n) ∧ (isStrV v = false → ∀ H', Same H H' → Q (.str "0") H') ∧ ∀ x, v = .str x → txOk x ∧ (∀ n, readStyle x = .error n → ∀ H', Same H H' → Q (.str (numS n)) H') ∧ (∀ st, readStyle x = .ok st → ∀ H', Same H H' → Q (.str "") H')
abbrev n_law_told : List Str := ["_law_value", "_law_caught", "_law_style", "error"]
theorem sc_law_told : FnScope n_law_told ["_law_value"] (defScope d_law_told) := ⟨rfl, rfl, rfl, by decide +kernel, rfl, by decide +kernel, by decide +kernel⟩
theorem ok_law_told (T : Top w K mg) : Has prg w K mg base CX0 10 (He.ga K "_law_told") ["_law_value"] (spTold K) := by
  obtain ⟨fd, F⟩ := T.F_law_told
  obtain ⟨fd_Style_init, G_Style_init, b_Style_init, k_Style_init⟩ := ok_Style_init (base := base) T
  obtain ⟨fd_Style_text, G_Style_text, b_Style_text, k_Style_text⟩ := ok_Style_text (base := base) T
  refine ⟨fd, F.ok (k := 9) sc_law_told (fun _ _ _ _ h => sp1_len h) (fun cdv A outer s H vs Q E hr h => ?_), F.bindsN (fun _ _ _ _ _ _ us hl => match us, hl with | [_], _ => rfl), F.kp⟩
  obtain ⟨v0, rfl, h⟩ := h
  refine ⟨_, PSs.nox (pss_cons (ps_asg (pe_tup (pa_cons pe_non (pa_cons pe_non pa_nil))) (pg_tup rfl (pgs_cons (pg_name (i := 1) sc_law_told.nd rfl (Or.inl rfl)) (pgs_cons (pg_name (i := 2) sc_law_told.nd rfl (Or.inl rfl)) pgs_nil))))
    (pss_cons (ps_try_keep (i := 3) (Wout := fun _ _ _ _ => False) rfl rfl sc_law_told.nd rfl rfl ⟨by rfl, by decide, .inl T.g_LabelError⟩ takesNo (fun W pn xe tk po => (pss_one (ps_set (i := 2) sc_law_told.nd rfl (Or.inl rfl) (pe_makeS T.mk_Style G_Style_init (hr.mono (by decide)) (by rfl) T.g_Style b_Style_init (fun σ => passAt tk σ) (pa_cons (pv 0) pa_nil))))) (fun a oe pn ho => (pss_one (ps_set (i := 1) sc_law_told.nd rfl (Or.inl rfl) (pv 3)))))
    (pss_cons (ps_if (pt_cmpR op_isN (pv 1) pe_non (nomark _)) (pss_one (ps_ret (pe_ifExp (pt_cmpR op_eq (pe_prop (pv 2) T.cl_Style T.p_Style_text G_Style_text (hr.mono (by decide)) b_Style_text .nil pass0 rfl) (pv 0) (nomark _)) pe_str pe_str))) pss_nil)
    (pss_one (ps_ret (pe_ifExp (PW.pt (pw_and (pt_val (pe_callB (call_isKept (D := He.ga K "LabelError") (fI := fIn K)) (by rfl) T.b_isinstance (by decide +kernel) (pa_cons (pv 1) (pa_cons (pe_glob (v := .ref (He.ga K "BadStyle")) (by rfl) T.g_BadStyle rfl) pa_nil)))) (pw_and1 (pt_val (pe_callB (call_isKept (D := He.ga K "LabelError") (fI := fIn K)) (by rfl) T.b_isinstance (by decide +kernel) (pa_cons (pv 1) (pa_cons (pe_bltn (v := .ty "ValueError") (by rfl) T.b_ValueError (by decide +kernel) rfl) pa_nil))))))) (pe_callB SkE.call_repr_int (by rfl) T.b_repr (by decide +kernel) (pa_cons (pe_keptV (D := He.ga K "LabelError") (fI := fIn K) (pv 1)) pa_nil)) pe_str)))))), ?_⟩
  obtain ⟨kn, h0, hx⟩ := h
  refine ⟨(by show 2 ≤ sizeLine; decide), fun t ht => ⟨t, _, rfl, SqT.of upd_same, rfl, _, _, rfl, _, _, rfl, rfl, ?_⟩⟩
  have s1 := same_new (o := .tup [V.non, V.non]) ht
  generalize upd H t (.tup [V.non, V.non]) = H1 at s1 ⊢
  refine ⟨_, rfl, ?_⟩
  intro x dx hx1 hdx hne
  have s2 : Same H1 (upd (upd H1 dx (.own x)) x (.ins (He.ga K "Style") dx [])) := fun b o hb => by
    rw [upd_ne (ne_of_none hb hx1), upd_ne (ne_of_none hb hdx)]
    exact hb
  have kn2 := kn.imp fun n k => k.same (s1.trans s2)
  refine ⟨_, _, rfl, x, dx, rfl, upd_same, kn2, ?r0, fun z e => ?_⟩
  rotate_left
  · obtain ⟨tx, he, ho⟩ := hx z e
    subst e
    refine ⟨tx, ?r1, fun st hst H3 os S => ⟨rfl, ?_⟩⟩
    rotate_left
    · have s3 : Same H H3 := fun b o hb => os b o (ne_of_none (s1 _ _ hb) hx1) (s2 _ _ (s1 _ _ hb))
      refine ⟨_, rfl, rfl, _, rfl, ?_⟩
      obtain ⟨sx, sf, so⟩ := S.obj
      refine ⟨_, rfl, x, _, _, rfl, so, _, rfl, _, _, S, _, rfl, rfl, _, rfl, ?_⟩
      rw [decide_eq_true rfl]
      exact ho st hst H3 s3
    · intro n hn d H3 s3 hd3 hxd
      have hlog : ((n : Nat) : Int).natAbs.log2 < 1920 := by
        rcases fwNum_read (x := z) rfl with ⟨_, st, e⟩ | ⟨h0, e⟩
        · rw [hn] at e
          cases e
        · rw [hn] at e
          cases e
          have h1 := fwNum_le (Txt.split z "\n")
          have h2 := tx.2.1
          rw [Int.natAbs_natCast]
          exact (Nat.log2_lt h0).mpr (Nat.lt_of_le_of_lt (show _ ≤ 1000 by omega) (by decide +kernel))
      have hq : ∀ H', Same H H' → Q (.str (numS n)) H' := he n hn
      have s03 := (s1.trans s2).trans s3
      refine ⟨true, caughtBy T.er_BadStyle T.er_LabelError, fun _ => ⟨_, d, rfl, rfl, fun a ha => ⟨_, rfl, _, rfl, rfl, _, rfl, ?_⟩⟩, fun z => by cases z⟩
      rw [decide_eq_false (fun z => by cases z)]
      have kA : KeptAt (upd H3 a (exk a (He.ga K "BadStyle") d)) a (He.ga K "BadStyle") (.int (n : Nat)) := ⟨d, upd_same, by rw [upd_ne (ne_of_none hxd ha)]; exact hxd⟩
      refine ⟨_, rfl, a, _, _, _, _, true, rfl, T.er_BadStyle, kA, .own _, isSelf, _, rfl, ?_⟩
      refine ⟨_, rfl, a, _, _, _, _, true, rfl, T.er_BadStyle, kA, .ty _, isVal T.er_BadStyle, _, rfl, ?_⟩
      exact ⟨_, rfl, a, _, _, rfl, T.er_BadStyle, kA, _, rfl, hlog, hq _ (s03.trans (same_new ha))⟩
  · intro e d H3 s3 hd3 hxd
    have s03 := (s1.trans s2).trans s3
    refine ⟨true, caughtBy T.er_BadStyle T.er_LabelError, fun _ => ⟨_, d, rfl, rfl, fun a ha => ⟨_, rfl, _, rfl, rfl, _, rfl, ?_⟩⟩, fun z => by cases z⟩
    rw [decide_eq_false (fun z => by cases z)]
    have kA : KeptAt (upd H3 a (exk a (He.ga K "BadStyle") d)) a (He.ga K "BadStyle") (.int 0) := ⟨d, upd_same, by rw [upd_ne (ne_of_none hxd ha)]; exact hxd⟩
    refine ⟨_, rfl, a, _, _, _, _, true, rfl, T.er_BadStyle, kA, .own _, isSelf, _, rfl, ?_⟩
    refine ⟨_, rfl, a, _, _, _, _, true, rfl, T.er_BadStyle, kA, .ty _, isVal T.er_BadStyle, _, rfl, ?_⟩
    exact ⟨_, rfl, a, _, _, rfl, T.er_BadStyle, kA, _, rfl, by decide, h0 e _ (s03.trans (same_new ha))⟩
end
end SK

set_option maxHeartbeats 4000000
namespace SL
open PySem PySem.Spec PyProof.Rows L2 TL
/-- a line of a lore -/
theorem LoreOk.line60 {lo : Lore} (h : LoreOk lo) : ∀ ws ∈ SL.linesOf lo, Ln 60 (lineOf ws) := fun ws hws => by
  obtain ⟨h1, h2, h3⟩ := h.short ws hws
  refine ⟨?_, line_nl fun w hw => (h3 w hw).1⟩
  have hj := join_wt (y := " ") tl_sp ws
  have hle : wt ws ≤ 60 := by
    have few : ws.length ≤ 4 → wt ws ≤ 52 := fun hl => by
      have : ∀ (us : List Str), (∀ w ∈ us, w.length ≤ 12) → wt us ≤ us.length * 13 := fun us => by
        induction us with
        | nil => intro _; exact Nat.le_refl _
        | cons u r ih =>
          intro hu
          have i1 := ih fun w hw => hu w (List.mem_cons_of_mem _ hw)
          have i2 := hu u (by simp)
          rw [show u :: r = [u] ++ r from rfl, wt_app, wt_one, List.length_append, List.length_singleton]
          omega
      have := this ws fun w hw => (h3 w hw).2
      omega
    have hm := hws
    simp only [SL.linesOf, List.mem_cons, List.mem_append, List.mem_map] at hm
    rcases hm with rfl | ⟨r, hr, rfl⟩ | ⟨p, hp, rfl⟩ | ⟨p, hp, rfl⟩
    · have := few (by simp [wZ])
      omega
    · have nums : ∀ (ns : List Int), (∀ n ∈ ns, 0 ≤ n ∧ n < 100) → wt (ns.map numS) ≤ ns.length * 3 := fun ns => by
        induction ns with
        | nil => intro _; exact Nat.le_refl _
        | cons u r ih =>
          intro hu
          have i1 := ih fun w hw => hu w (List.mem_cons_of_mem _ hw)
          have i2 := hu u (by simp)
          obtain ⟨m, rfl⟩ := Int.eq_ofNat_of_zero_le i2.1
          have i3 := numS2 m (by omega)
          rw [List.map_cons, show numS (m : Int) :: r.map numS = [numS (m : Int)] ++ r.map numS from rfl, wt_app, wt_one, List.length_cons]
          omega
      obtain ⟨r1, r2, r3, r4, r5, r6, r7, r8⟩ := rowOk_iff.mp (h.rows.ok r hr)
      have z5 := h.z5
      have hn : r.name.length ≤ 12 := name_len r1
      have e : wC r = (["class", r.name] : List Str) ++ ([r.first, r.least, r.most] ++ r.sizes).map numS := by
        unfold wC
        simp
      have hc : wt (["class", r.name] : List Str) ≤ 19 := by
        have : ("class" : Str).length = 5 := by decide +kernel
        simp only [wt, List.map_cons, List.map_nil, List.sum_cons, List.sum_nil]
        omega
      have hs := nums ([r.first, r.least, r.most] ++ r.sizes) fun n hn => by
        rcases List.mem_append.mp hn with hn | hn
        · simp only [List.mem_cons, List.not_mem_nil, or_false] at hn
          rcases hn with rfl | rfl | rfl <;> omega
        · have := sizes_rng r3 hn
          omega
      have hl : r.sizes.length ≤ 5 := by omega
      rw [e, wt_app]
      rw [List.length_append] at hs
      simp only [List.length_cons, List.length_nil] at hs
      omega
    · have := few (by simp [wB])
      omega
    · have := few (by simp [wF])
      omega
  unfold lineOf
  omega
theorem joined {fs : List Str} (hl : fs.length ≤ 100) (h : ∀ z ∈ fs, Ln 600 z) : Txt.split (Txt.join "\n" fs) "\n" = (if fs = [] then ([""] : List Str) else fs) ∧ SK.txOk (Txt.join "\n" fs) := by
  have e : Txt.split (Txt.join "\n" fs) "\n" = (if fs = [] then ([""] : List Str) else fs) := by
    by_cases hn : fs = []
    · subst hn
      rw [if_pos rfl]
      decide +kernel
    · rw [if_neg hn]
      exact split_join (s := 10) (S := []) tl_nl (by decide +kernel) hn fun p hp => (h p hp).2
  refine ⟨e, ?_, ?_, ?_⟩
  · have := join_len (y := "\n") (B := 600) (ws := fs) fun w hw => (h w hw).1
    have e1 : ("\n" : Str).length = 1 := by decide +kernel
    rw [e1] at this
    omega
  · rw [e]
    split
    · decide
    · omega
  · rw [e]
    split
    · intro z hz
      rw [List.mem_singleton] at hz
      rw [hz]
      exact Nat.zero_le _
    · exact fun z hz => (h z hz).1
def Bs : Nat → Nat
  | 0 => 60
  | i + 1 => 2 * Bs i + 14
theorem Bs_ok {i : Nat} (h : i ≤ 3) : 20 ≤ Bs i ∧ Bs i ≤ 600 ∧ (i ≤ 2 → Bs i ≤ 570) := by
  match i, h with
  | 0, _ => decide
  | 1, _ => decide
  | 2, _ => decide
  | 3, _ => decide
def spRight2 : Sp := sp1 fun a H Q _ => ∃ (p : Addr), a = .ref p ∧ Pt p 1000 H ∧ ∀ H', Kp p H H' → Q (.bl true) H'
end SL
namespace SK
open PySem PySem.Spec PyProof.Rows L2 SL
section
variable {w : World} {K : PySem.W.Frag} {mg : Str → Option Value} {base : Heap}
abbrev n_law_right : List Str := ["_law_pot_here", "_law_lines", "_law_turn", "_law_some", "_law_lap", "_law_number_here"]
theorem sc_law_right : FnScope n_law_right ["_law_pot_here"] (defScope d_law_right) := ⟨rfl, rfl, rfl, by decide +kernel, rfl, by decide +kernel, by decide +kernel⟩
theorem ok_law_right (T : Top w K mg) : Has prg w K mg base CX0 11 (He.ga K "_law_right") ["_law_pot_here"] spRight2 := by
  obtain ⟨fd, F⟩ := T.F_law_right
  obtain ⟨fd_law_text, G_law_text, b_law_text, k_law_text⟩ := ok_law_text (base := base) T
  obtain ⟨fd_law_lore, G_law_lore, b_law_lore, k_law_lore⟩ := ok_law_lore (base := base) T
  obtain ⟨fd_law_take, G_law_take, b_law_take, k_law_take⟩ := ok_law_take (base := base) T
  obtain ⟨fd_law_told, G_law_told, b_law_told, k_law_told⟩ := ok_law_told (base := base) T
  obtain ⟨fd_law_first_wrong, G_law_first_wrong, b_law_first_wrong, k_law_first_wrong⟩ := ok_law_first_wrong (base := base) T
  obtain ⟨fd_law_of, G_law_of, b_law_of, k_law_of⟩ := ok_law_of (base := base) T
  obtain ⟨fd_law_spoilt, G_law_spoilt, b_law_spoilt, k_law_spoilt⟩ := ok_law_spoilt (base := base) T
  refine ⟨fd, F.ok (k := 10) sc_law_right (fun _ _ _ _ h => sp1_len h) (fun cdv A outer s H vs Q E hr h => ?_), F.bindsN (fun _ _ _ _ _ _ us hl => match us, hl with | [_], _ => rfl), F.kp⟩
  obtain ⟨v0, rfl, h⟩ := h
  refine ⟨_, PSs.nox (pss_cons (ps_set (i := 1) sc_law_right.nd rfl (Or.inl rfl) (pe_split (pe_call G_law_text (hr.mono (by decide)) (by rfl) T.g_law_text k_law_text b_law_text .nil pass0 (pa_cons (pe_call G_law_lore (hr.mono (by decide)) (by rfl) T.g_law_lore k_law_lore b_law_lore .nil pass0 (pa_cons (pv 0) (pa_cons pe_int (pa_cons pe_int (pa_cons (pe_op op_add pe_int (pe_call G_law_take (hr.mono (by decide)) (by rfl) T.g_law_take k_law_take b_law_take .nil pass0 (pa_cons (pv 0) (pa_cons pe_int pa_nil)))) pa_nil))))) pa_nil)) pe_str))
    (pss_cons (ps_if (PW.pt (pw_or (pt_cmpR op_ne (pe_call G_law_first_wrong (hr.mono (by decide)) (by rfl) T.g_law_first_wrong k_law_first_wrong b_law_first_wrong .nil pass0 (pa_cons (pv 1) pa_nil)) pe_int (nomark _)) (pw_or1 (pt_cmpR op_ne (pe_call G_law_told (hr.mono (by decide)) (by rfl) T.g_law_told k_law_told b_law_told .nil pass0 (pa_cons (pe_join pe_str (pv 1)) pa_nil)) pe_str (nomark _))))) (pss_one (ps_ret pe_bl)) pss_nil)
    (pss_cons (ps_for PassesOwn.never rfl (pi_range1 (by rfl) T.b_range (pa_cons pe_int pa_nil)) (pg_name (i := 2) sc_law_right.nd rfl (Or.inl rfl)) (pss_cons (ps_set (i := 3) sc_law_right.nd rfl (Or.inl rfl) (pe_callTy call_list_of (by rfl) T.b_list boot_list (pa_cons (pv 1) pa_nil)))
    (pss_cons (ps_for PassesOwn.never rfl (pi_range1 (by rfl) T.b_range (pa_cons (pe_call G_law_of (hr.mono (by decide)) (by rfl) T.g_law_of k_law_of b_law_of .nil pass0 (pa_cons (pv 0) (pa_cons (pe_lst (pa_cons pe_int (pa_cons pe_int (pa_cons pe_int (pa_cons pe_int pa_nil))))) pa_nil))) pa_nil)) (pg_name (i := 4) sc_law_right.nd rfl (Or.inl rfl)) (pss_one (ps_set (i := 3) sc_law_right.nd rfl (Or.inl rfl) (pe_call G_law_spoilt (hr.mono (by decide)) (by rfl) T.g_law_spoilt k_law_spoilt b_law_spoilt .nil pass0 (pa_cons (pv 0) (pa_cons (pv 3) pa_nil))))))
    (pss_cons (ps_set (i := 5) sc_law_right.nd rfl (Or.inl rfl) (pe_call G_law_first_wrong (hr.mono (by decide)) (by rfl) T.g_law_first_wrong k_law_first_wrong b_law_first_wrong .nil pass0 (pa_cons (pe_ifExp (pt_cmpR (op_neNil hr.units) (pv 3) (pe_lst pa_nil) (nomark _)) (pv 3) (pe_lst (pa_cons pe_str pa_nil))) pa_nil)))
    (pss_one (ps_if (pt_cmpR op_ne (pe_call G_law_told (hr.mono (by decide)) (by rfl) T.g_law_told k_law_told b_law_told .nil pass0 (pa_cons (pe_join pe_str (pv 3)) pa_nil)) (pe_ifExp (pt_cmpR op_eq (pv 5) pe_int (nomark _)) pe_str (pe_callB SkE.call_repr_int (by rfl) T.b_repr (by decide +kernel) (pa_cons (pv 5) pa_nil))) (nomark _)) (pss_one (ps_ret pe_bl)) pss_nil))))))
    (pss_one (ps_ret (pe_cmpR op_eq (pe_call G_law_told (hr.mono (by decide)) (by rfl) T.g_law_told k_law_told b_law_told .nil pass0 (pa_cons (pv 1) pa_nil)) pe_str (nomark _))))))), ?_⟩
  obtain ⟨p, rfl, hp, k⟩ := h
  refine ⟨_, rfl, _, rfl, take_q (f := 999) hp (by decide) (by decide) fun r H1 r0 r1 hp1 k1 => ⟨_, _, rfl, rfl, ?_⟩⟩
  refine ⟨_, _, _, _, rfl, p, 5, 4, 2 + r, 600, rfl, rfl, rfl, rfl, by decide, by decide, by decide, by decide, by omega, by omega, hp1.mono (by decide), fun v lo H2 ok _ _ LA2 hp2 k2 => ?_⟩
  refine ⟨_, rfl, lo, LA2, ok, fun H3 s3 => ⟨⟨_, rfl⟩, _, _, rfl, rfl, by decide, Nat.le_trans (show (textOf lo).length + 2 ≤ 5000 by have := ok.len; omega) (by decide), fun L hL => ?_⟩⟩
  have hp3 := hp2.same s3
  have nL := hp3.ne hL
  have s4 : Same H3 (upd H3 L (.lst ((Txt.split (textOf lo) "\n").map V.str))) := same_new hL
  have hL4 : upd H3 L (.lst ((Txt.split (textOf lo) "\n").map V.str)) L = some (.lst ((Txt.split (textOf lo) "\n").map V.str)) := upd_same
  generalize upd H3 L (.lst ((Txt.split (textOf lo) "\n").map V.str)) = H4 at s4 hL4 ⊢
  have hp4 := hp3.same s4
  have kp4 : Kp p H H4 := ((k1.trans k2).trans (Kp.of s3)).trans (Kp.of s4)
  have hc := ok.count
  obtain ⟨so, hrd⟩ := ok.reads
  have hf0 : fwNum (Txt.split (textOf lo) "\n") = 0 := by
    rcases fwNum_read (x := textOf lo) rfl with ⟨h, _⟩ | ⟨_, h⟩
    · exact h
    · rw [hrd] at h
      cases h
  have hjo : Txt.join "\n" (Txt.split (textOf lo) "\n") = textOf lo := by rw [TL.join_eq, StrLaws.join_split]
  have tx := tx_ok ok
  have hls : (Txt.split (textOf lo) "\n").length ≤ 25 ∧ Txt.split (textOf lo) "\n" ≠ [] ∧ ∀ z ∈ Txt.split (textOf lo) "\n", Ln 60 z := by
    rw [ok.split]
    refine ⟨by rw [List.length_map]; exact hc, by simp [SL.linesOf], fun z hz => ?_⟩
    obtain ⟨ws, hws, rfl⟩ := List.mem_map.mp hz
    exact ok.line60 ws hws
  generalize Txt.split (textOf lo) "\n" = ls at hL4 hf0 hjo hls
  obtain ⟨hl1, hl2, hl3⟩ := hls
  have joinB : ∀ fs : List Str, fs.length ≤ 100 → (∀ z ∈ fs, Ln 600 z) → (fs.map (·.length)).sum + fs.length * ("\n" : Str).length ≤ 16777216 := fun fs h1 h2 => by
    have e : ("\n" : Str).length = 1 := by decide +kernel
    have e2 : (" " : Str).length = 1 := by decide +kernel
    have h3 := wt_sum fs
    rw [e2] at h3
    rw [e, h3]
    have : ∀ (us : List Str), (∀ w ∈ us, w.length ≤ 600) → wt us ≤ us.length * 601 := fun us => by
      induction us with
      | nil => intro _; exact Nat.le_refl _
      | cons u r ih =>
        intro hu
        have i1 := ih fun w hw => hu w (List.mem_cons_of_mem _ hw)
        have i2 := hu u (by simp)
        rw [show u :: r = [u] ++ r from rfl, wt_app, wt_one, List.length_append, List.length_singleton]
        omega
    have := this fs fun w hw => (h2 w hw).1
    omega
  -- the law's own lines
  refine ⟨_, rfl, _, rfl, L, ls, rfl, hL4, by omega, fun z hz => Nat.le_trans (hl3 z hz).1 (by decide), fun H5 s5 => ⟨rfl, _, rfl, ?_⟩⟩
  rw [hf0]
  refine ⟨⟨_, rfl⟩, _, rfl, _, L, ls, rfl, rfl, .inl (SqL.of (s5 _ _ hL4)), joinB ls (by omega) (fun z hz => (hl3 z hz).mono (by decide)), ?_⟩
  rw [hjo]
  refine ⟨_, rfl, ⟨_, .str _⟩, fun z => (by cases z), fun x e => ?_⟩
  cases e
  refine ⟨tx, fun n e => ?_, fun st e H6 s6 => ⟨rfl, _, rfl, ?_⟩⟩
  · rw [hrd] at e
    cases e
  -- the turns
  have kp6 : Kp p H H6 := kp4.trans (Kp.of (s5.trans s6))
  have hp6 := (hp4.same s5).same s6
  have hL6 := s6 _ _ (s5 _ _ hL4)
  refine ⟨_, rfl, by omega, by omega, ?_⟩
  refine for_it (walk_range (lo := 0) (n := (10 : Int).toNat)) (fun i σ H7 => ∃ (o2 o3 o4 o5 : Option V), σ = [some (.ref p), some (.ref L), o2, o3, o4, o5] ∧ Kp p H H7 ∧ Pt p (30 * (10 - i)) H7 ∧ H7 L = some (.lst (ls.map V.str)))
    ⟨_, _, _, _, rfl, kp6, hp6.mono (by decide), hL6⟩ (fun _ _ _ _ _ => trivial) ?_ ?_
  · rintro i x σ Hz H7 hi ⟨o2, o3, o4, o5, rfl, kp7, hp7, hL7⟩ ⟨rfl, rfl⟩
    have hi : i < 10 := hi
    refine ⟨_, rfl, L, _, rfl, .inl (SqL.of hL7), fun S hS => ?_⟩
    have s8 := same_new (o := .lst (ls.map V.str)) hS
    have nS := hp7.ne hS
    have hS8 : upd H7 S (.lst (ls.map V.str)) S = some (.lst (ls.map V.str)) := upd_same
    generalize upd H7 S (.lst (ls.map V.str)) = H8 at s8 hS8 ⊢
    refine ⟨_, rfl, (by show 4 ≤ sizeLine; decide), fun q hq => ?_⟩
    have s9 := same_new (o := .lst [V.int 1, V.int 1, V.int 2, V.int 3]) hq
    have hp8 := hp7.same s8
    refine of_q (f := 30 * (10 - (i + 1)) + 29) ((hp8.same s9).mono (by omega)) upd_same (hp8.ne hq) (by show 0 < 4; decide) (by show 4 ≤ 1000000; decide) fun v H10 hv hp10 k10 => ?_
    obtain ⟨n, rfl, hn1, hn3⟩ : ∃ n : Nat, v = .int n ∧ 1 ≤ n ∧ n ≤ 3 := by
      simp only [List.mem_cons, List.not_mem_nil, or_false] at hv
      rcases hv with rfl | rfl | rfl | rfl
      · exact ⟨1, rfl, by decide, by decide⟩
      · exact ⟨1, rfl, by decide, by decide⟩
      · exact ⟨2, rfl, by decide, by decide⟩
      · exact ⟨3, rfl, by decide, by decide⟩
    have k710 : Kp p H7 H10 := (Kp.of (s8.trans s9)).trans k10
    refine ⟨_, rfl, by omega, by omega, ?_⟩
    refine for_it (walk_range (lo := 0) (n := (n : Int).toNat)) (fun j σ H' => ∃ (S' : Addr) (fs : List Str) (o2 o4 o5 : Option V), σ = [some (.ref p), some (.ref L), o2, some (.ref S'), o4, o5] ∧ Kp p H H' ∧ Pt p (30 * (10 - (i + 1)) + 8 * (3 - j)) H' ∧ H' L = some (.lst (ls.map V.str)) ∧ H' S' = some (.lst (fs.map V.str)) ∧ S' ≠ p ∧ fs.length ≤ 25 + 2 * j ∧ ∀ z ∈ fs, Ln (Bs j) z)
      ⟨S, ls, _, _, _, rfl, kp7.trans k710, hp10.mono (by omega), k710 _ _ nL hL7, k10 _ _ nS (s9 _ _ hS8), nS, hl1, hl3⟩ (fun _ _ _ _ _ => trivial) ?_ ?_
    · rintro j x σ H11 H12 hj ⟨S', fs, o2, o4, o5, rfl, kp11, hp11, hL11, hS11, nS', hfl, hfz⟩ ⟨rfl, rfl⟩
      have hj : j < n := hj
      have hB := Bs_ok (i := j) (by omega)
      refine ⟨_, rfl, _, rfl, _, _, rfl, p, S', 30 * (10 - (i + 1)) + 8 * (3 - (j + 1)), Bs j, fs, rfl, rfl, hp11.mono (by omega), hS11, nS', by omega, hfz, hB.1, hB.2.2 (by omega), fun L' ls' H' hp' k' hL' nL' hl' hz' => ?_⟩
      exact ⟨L', ls', _, _, _, rfl, kp11.trans k', hp', k' _ _ nL hL11, hL', nL', by omega, hz'⟩
    · rintro σ H11 ⟨S', fs, o2, o4, o5, rfl, kp11, hp11, hL11, hS11, nS', hfl, hfz⟩
      have hB := Bs_ok (i := n) hn3
      have hfz : ∀ z ∈ fs, Ln 600 z := fun z hz => (hfz z hz).mono hB.2.1
      have hfl : fs.length ≤ 31 := by
        have : (n : Int).toNat = n := rfl
        omega
      obtain ⟨esp, etx⟩ := joined (by omega) hfz
      refine ⟨_, rfl, (by show 0 ≤ sizeLine; decide), fun e he => ⟨S', e, _, rfl, rfl, SqL.of (same_new he _ _ hS11), upd_same, _, rfl, ?_⟩⟩
      have s12 := same_new (o := .lst []) he
      generalize upd H11 e (.lst []) = H12 at s12 ⊢
      by_cases hnil : fs = []
      case' pos =>
        rw [show (!(fs.map V.str).isEmpty) = false by rw [hnil]; rfl]
        rw [if_pos hnil] at esp
        refine ⟨(by show 1 ≤ sizeLine; decide), fun F hF => ?_⟩
        have s13 : Same H12 (upd H12 F (.lst (([""] : List Str).map V.str))) := same_new hF
        refine ⟨_, rfl, F, ([""] : List Str), rfl, upd_same, by decide, fun z hz => (by rw [List.mem_singleton] at hz; rw [hz]; exact Nat.zero_le _), fun H14 s14 => ?_⟩
        have s1214 := s13.trans s14
        generalize ([""] : List Str) = gs at esp ⊢
      case' neg =>
        rw [show (!(fs.map V.str).isEmpty) = true by cases fs with
          | nil => exact absurd rfl hnil
          | cons _ _ => rfl]
        rw [if_neg hnil] at esp
        refine ⟨_, rfl, _, rfl, S', fs, rfl, s12 _ _ hS11, by omega, fun z hz => (hfz z hz).1, fun H14 s14 => ?_⟩
        have s1214 := s14
        obtain ⟨gs, egs⟩ : ∃ gs, gs = fs := ⟨_, rfl⟩
        replace esp : Txt.split (Txt.join "\n" fs) "\n" = gs := by rw [egs]; exact esp
        rw [show fwNum fs = fwNum gs by rw [egs]]
      all_goals
        have s1114 := s12.trans s1214
        have hS14 := s1114 _ _ hS11
        have hgl : gs.length ≤ 900 := by
          rw [← esp]
          exact etx.2.1
        have nx : ∀ H', Same H14 H' → Kp p H H' ∧ Pt p (30 * (10 - (i + 1))) H' ∧ H' L = some (.lst (ls.map V.str)) := fun H' s' => ⟨kp11.trans (Kp.of (s1114.trans s')), ((hp11.same s1114).same s').mono (by omega), s' _ _ (s1114 _ _ hL11)⟩
        refine ⟨⟨_, rfl⟩, _, rfl, _, S', fs, rfl, rfl, .inl (SqL.of hS14), joinB fs (by omega) hfz, _, rfl, ⟨_, .str _⟩, fun z => (by cases z), fun x e => ?_⟩
        cases e
        have hcase := fwNum_read esp
        refine ⟨etx, fun m e H15 s15 => ?_, fun st e H15 s15 => ?_⟩
        · rcases hcase with ⟨_, st, e'⟩ | ⟨h0, e'⟩
          · rw [e'] at e
            cases e
          · rw [e'] at e
            cases e
            refine ⟨_, rfl, rfl, _, rfl, ?_⟩
            rw [decide_eq_false (fun z => h0 (by have := V.int.inj z; omega))]
            have hle := fwNum_le gs
            refine ⟨_, rfl, _, rfl, ?_, rfl, _, rfl, ?_⟩
            · rw [Int.natAbs_natCast]
              exact (Nat.log2_lt h0).mpr (Nat.lt_of_le_of_lt (show _ ≤ 1000 by omega) (by decide +kernel))
            · have ed : decide (V.str (numS (fwNum gs : Nat)) = V.str (Str.ofString (toString ((fwNum gs : Nat) : Int)))) = true := decide_eq_true rfl
              rw [ed]
              exact ⟨_, _, _, _, rfl, nx _ s15⟩
        · rcases hcase with ⟨h0, _⟩ | ⟨_, e'⟩
          · refine ⟨_, rfl, rfl, _, rfl, ?_⟩
            rw [h0, show decide (V.int ((0 : Nat) : Int) = V.int 0) = true from decide_eq_true rfl]
            refine ⟨rfl, _, rfl, ?_⟩
            rw [decide_eq_true rfl]
            exact ⟨_, _, _, _, rfl, nx _ s15⟩
          · rw [e'] at e
            cases e
  · rintro σ H7 ⟨o2, o3, o4, o5, rfl, kp7, hp7, hL7⟩
    refine ⟨_, rfl, _, rfl, ⟨_, .lst hL7⟩, fun _ H8 s8 => ⟨rfl, ?_⟩, fun x e => (by cases e)⟩
    rw [decide_eq_true rfl]
    exact k _ (kp7.trans (Kp.of s8))
end
end SK

set_option maxHeartbeats 4000000
namespace SL
open PySem PySem.Spec PyProof.Rows L2
theorem rep_true (n : Nat) : (List.range n).filterMap (fun _ => some (V.bl true)) = (List.replicate n true).map V.bl := by
  rw [fm_some, List.map_replicate]
  exact List.eq_replicate_iff.mpr ⟨by simp, fun b hb => by
    obtain ⟨_, _, rfl⟩ := List.mem_map.mp hb
    rfl⟩
end SL
namespace SK
open PySem PySem.Spec PyProof.Rows L2 SL
section
variable {w : World} {K : PySem.W.Frag} {mg : Str → Option Value} {base : Heap}
def spLaw (K : PySem.W.Frag) : Sp := sp1 fun a H Q _ => ∃ (s : Addr) (ns : List Int), a = .ref s ∧ SqL K H s (ns.map V.int) ∧ ns.length ≤ 63 ∧ ∀ H', Q (.bl true) H'
abbrev n_law : List Str := ["_law_script", "_law_k", "_law_thing"]
theorem sc_law : FnScope n_law ["_law_script"] (defScope d_law) := ⟨rfl, rfl, rfl, by decide +kernel, rfl, by decide +kernel, by decide +kernel⟩
theorem ok_law' (T : Top w K mg) {fd : FuncData} (F : FunD K "law" "law" (defArgs d_law) (defBody d_law) (defScope d_law) [] [] (He.ga K "law") fd) : FnG prg w K mg base CX0 12 (He.ga K "law") fd ["_law_script"] (spLaw K) := by
  obtain ⟨fd_law_told, G_law_told, b_law_told, k_law_told⟩ := ok_law_told (base := base) T
  obtain ⟨fd_law_right, G_law_right, b_law_right, k_law_right⟩ := ok_law_right (base := base) T
  obtain ⟨fd_law_pot, G_law_pot, b_law_pot, k_law_pot⟩ := ok_law_pot (base := base) T
  refine funD_okG (k := 11) F sc_law (fun _ _ _ _ h => sp1_len h) (fun cdv A outer s H vs Q E hg hr h => ?_)
  obtain ⟨v0, rfl, h⟩ := h
  refine ⟨_, PSs.nox (pss_cons (ps_if (pt_not (pt_val (pe_callB (cr_all rfl) (by rfl) T.b_all (by decide +kernel) (pa_cons (pe_lc (own := [("_law_thing", 2)]) (g := gName 2) (by rfl) sc_law.nd (pi_list (pe_lst (pa_cons pe_non (pa_cons pe_int (pa_cons pe_bl (pa_cons (pe_tup pa_nil) (pa_cons (pe_tup (pa_cons pe_str pa_nil)) (pa_cons pe_dnewK pa_nil)))))))) (blkOk_by (N := n_law) (sc := defScope d_law) (own := [("_law_thing", 2)]) (by decide +kernel)) (fun _ _ _ _ _ => (pg_name (i := 2) sc_law.nd rfl (Or.inl rfl) (.inr rfl))) (fun _ _ _ _ _ => pts_nil) (fun _ _ _ _ _ => (pe_cmpR op_eq (pe_call G_law_told (hr.mono (by decide)) (by rfl) T.g_law_told k_law_told b_law_told .nil pass0 (pa_cons (pv 2) pa_nil)) pe_str (nomark _)))) pa_nil)))) (pss_one (ps_ret pe_bl)) pss_nil)
    (pss_one (ps_ret (pe_callB (cr_all rfl) (by rfl) T.b_all (by decide +kernel) (pa_cons (pe_lc (own := [("_law_k", 1)]) (g := gName 1) (by rfl) sc_law.nd (pi_range1 (by rfl) T.b_range (pa_cons (pe_callB (call_max2 (by rfl)) (by rfl) T.b_max (by decide +kernel) (pa_cons pe_int (pa_cons (pe_callB (call_min2 (by rfl)) (by rfl) T.b_min (by decide +kernel) (pa_cons pe_int (pa_cons (pe_callB call_len (by rfl) T.b_len (by decide +kernel) (pa_cons (pv 0) pa_nil)) pa_nil))) pa_nil))) pa_nil)) (blkOk_by (N := n_law) (sc := defScope d_law) (own := [("_law_k", 1)]) (by decide +kernel)) (fun _ _ _ _ _ => (pg_name (i := 1) sc_law.nd rfl (Or.inl rfl) (.inr rfl))) (fun _ _ _ _ _ => pts_nil) (fun _ _ _ _ _ => (pe_call G_law_right (hr.mono (by decide)) (by rfl) T.g_law_right k_law_right b_law_right .nil pass0 (pa_cons (pe_call G_law_pot (hr.mono (by decide)) (by rfl) T.g_law_pot k_law_pot b_law_pot .nil pass0 (pa_cons (pv 0) (pa_cons (pv 1) pa_nil))) pa_nil)))) pa_nil))))), ?_⟩
  obtain ⟨sa, ns, rfl, hS, hn, k⟩ := h
  -- what is no text
  refine ⟨(by show 0 ≤ sizeLine; decide), fun e1 h1 => ⟨(by show 1 ≤ sizeLine; decide), fun e2 h2 => fun e3 h3 => ⟨(by show 6 ≤ sizeLine; decide), fun A1 hA => ?_⟩⟩⟩
  have s1 := same_new (o := .tup []) h1
  have s2 := same_new (o := .tup [V.str "zooms 1"]) h2
  have s3 := same_new (o := .dK []) h3
  have g1 := s3 _ _ (s2 _ _ (show upd H e1 (.tup []) e1 = some (.tup []) from upd_same))
  have g2 := s3 _ _ (show upd (upd H e1 (.tup [])) e2 (.tup [V.str "zooms 1"]) e2 = some (.tup [V.str "zooms 1"]) from upd_same)
  have g3 : upd (upd (upd H e1 (.tup [])) e2 (.tup [V.str "zooms 1"])) e3 (.dK []) e3 = some (.dK []) := upd_same
  have s03 := (s1.trans s2).trans s3
  generalize upd (upd (upd H e1 (.tup [])) e2 (.tup [V.str "zooms 1"])) e3 (.dK []) = H3 at g1 g2 g3 s03 hA ⊢
  have s4 := same_new (o := .lst [V.non, V.int 3, V.bl true, V.ref e1, V.ref e2, V.ref e3]) hA
  have hA4 : upd H3 A1 (.lst [V.non, V.int 3, V.bl true, V.ref e1, V.ref e2, V.ref e3]) A1 = some (.lst [V.non, V.int 3, V.bl true, V.ref e1, V.ref e2, V.ref e3]) := upd_same
  generalize upd H3 A1 (.lst [V.non, V.int 3, V.bl true, V.ref e1, V.ref e2, V.ref e3]) = H4 at s4 hA4 ⊢
  refine ⟨A1, rfl, ⟨_, SqL.of hA4⟩, fun D1 hD1 => ?_⟩
  refine lc_fm (walk_list (xs := [V.non, V.int 3, V.bl true, V.ref e1, V.ref e2, V.ref e3])) (fun _ => some (V.bl true)) hD1 (by show 6 ≤ sizeLine; decide) (fun H5 s5 => SqL.of (s5 _ _ hA4)) ?_ ?_
  · rintro i v H5 H6 Ky Kn hi s5 ⟨rfl, hv⟩ ky kn
    have s36 := s4.trans s5
    obtain ⟨hns, n, kn'⟩ : isStrV v = false ∧ ∃ n, SL.Kn H6 v n := by
      have hm := List.mem_of_getElem? hv
      simp only [List.mem_cons, List.not_mem_nil, or_false] at hm
      rcases hm with rfl | rfl | rfl | rfl | rfl | rfl
      · exact ⟨rfl, _, .non⟩
      · exact ⟨rfl, _, .int _⟩
      · exact ⟨rfl, _, .bl _⟩
      · exact ⟨rfl, _, .tup (s36 _ _ g1)⟩
      · exact ⟨rfl, _, .tup (s36 _ _ g2)⟩
      · exact ⟨rfl, _, .dK (s36 _ _ g3)⟩
    refine ⟨rfl, _, rfl, _, rfl, ⟨n, kn'⟩, fun _ H7 s7 => ⟨rfl, ?_⟩, fun x e => ?_⟩
    · rw [decide_eq_true rfl]
      exact ky _ _ rfl s7
    · rw [e] at hns
      cases hns
  intro H5 s5 hD5
  refine ⟨D1, [true, true, true, true, true, true], rfl, SqL.of hD5, _, rfl, ?_⟩
  have s05 := (s03.trans s4).trans s5
  have hS5 := s05.seq hS
  -- the styles
  refine ⟨_, rfl, _, (ns.map V.int).length, rfl, .inl ⟨_, hS5, rfl⟩, _, _, rfl, _, _, rfl, _, rfl, ?_⟩
  obtain ⟨j, hj, hj0, hj1⟩ : ∃ j : Int, (if (if (((ns.map V.int).length : Nat) : Int) < 8 then (((ns.map V.int).length : Nat) : Int) else 8) > 1 then (if (((ns.map V.int).length : Nat) : Int) < 8 then (((ns.map V.int).length : Nat) : Int) else 8) else 1) = j ∧ 0 ≤ j ∧ j ≤ 8 := ⟨_, rfl, by split <;> split <;> omega, by split <;> split <;> omega⟩
  rw [hj]
  refine ⟨by omega, by omega, fun D hD => ?_⟩
  refine lc_fm (walk_range (lo := 0) (n := j.toNat)) (fun _ => some (V.bl true)) hD (by rw [sizeLine_eq]; omega) (fun _ _ => trivial) ?_ ?_
  · rintro i x H1 H2 Ky Kn hi s1 ⟨rfl, rfl⟩ ky kn
    refine ⟨rfl, _, rfl, _, rfl, _, _, rfl, sa, ns, _, rfl, s1.seq hS5, by omega, by omega, hn, fun p l H3 hp hpl hp3 s3 => ?_⟩
    refine ⟨_, rfl, p, rfl, ⟨l, hp3, hpl.mono (by decide)⟩, fun H4 kp => ky _ _ rfl fun b o hb => kp b o (ne_of_none hb hp) (s3 b o hb)⟩
  · intro H1 s1 hD1
    refine ⟨D, List.replicate j.toNat true, rfl, SqL.of ?_, ?_⟩
    · rw [hD1, rep_true]
    · have e : (List.replicate j.toNat true).all id = true := by simp
      rw [e]
      exact k H1
end
end SK

set_option maxHeartbeats 4000000
/-! a table's tuples of texts -/
namespace SL
open PySem PySem.Spec PyProof.Rows L2
def strOfV : Value → Option Str
  | .str x _ => some x
  | _ => none
def strsB (K : PySem.W.Frag) (a : Addr) (key : Str) (zs : List Str) : Bool := match PySem.W.nsIn K a key with
  | some (some (.ref v)) => (match K.lookup v with
    | some ⟨.type c, _, .seq its _, _⟩ => decide (c = "tuple") && (decide (its.toList.map strOfV = zs.map some) && decide (its.size ≤ 1000))
    | _ => false)
  | _ => false
theorem vals_strs : ∀ {us : List Value} {zs : List Str}, us.map strOfV = zs.map some → Vals (zs.map V.str) us
  | [], [], _ => .nil
  | [], _ :: _, h => by cases h
  | _ :: _, [], h => by cases h
  | u :: us, z :: zs, h => by
    rw [List.map_cons, List.map_cons] at h
    obtain ⟨h1, h2⟩ := List.cons.inj h
    refine .cons ?_ (vals_strs h2)
    cases u <;> first | cases h1 | skip
    exact ⟨_, rfl⟩
theorem strsB_ok {K : PySem.W.Frag} {a : Addr} {key : Str} {zs : List Str} (h : strsB K a key zs = true) : ∃ u v, PySem.W.nsIn K a key = some (some u) ∧ RelV (.ref v) u ∧ ∀ H, SqT K H v (zs.map V.str) := by
  unfold strsB at h
  split at h
  · rename_i v hv
    split at h
    · rename_i c dd its n sl hl
      simp only [Bool.and_eq_true, decide_eq_true_eq] at h
      obtain ⟨rfl, h2, h3⟩ := h
      exact ⟨_, v, hv, rfl, fun H => .inr ⟨_, its, n, hl, rfl, rfl, Nat.le_trans h3 (by decide), vals_strs h2⟩⟩
    · cases h
  · cases h
end SL
set_option maxHeartbeats 0
namespace SK
open PySem PySem.Spec PyProof.Rows L2 SL
def fa : List He.Fa := ([.free "TypeError", .free "ValueError", .free "abs", .free "all", .free "bool", .free "dict", .free "enumerate", .free "int", .free "isinstance", .free "len", .free "list", .free "max", .free "min", .free "property", .free "range"] : List He.Fa) ++
  ([.free "repr", .free "str", .free "super", .free "tuple", .free "zip", .str "LETTERS" "abcdefghijklmnopqrstuvwxyz", .str "FIGURES" "0123456789", .int "MOST_LETTERS" 12, .str "ZERO" "0", .str "ZOOMS" "zooms", .str "CLASS" "class", .str "BESIDE" "beside", .str "FAR" "far", .int "MOST_ZOOMS" 5, .int "MOST_CLASSES" 4] : List He.Fa) ++
  ([.int "LEAST_SIZE" 2, .int "MOST_SIZE" 9, .int "MOST_LEAST" 9, .int "MOST_MORE" 3, .int "MOST_FAR" 9999, .int "ZOOMS_WORDS" 2, .int "CLASS_WORDS" 6, .int "BESIDE_WORDS" 3, .int "FAR_WORDS" 4, .int "SIZES_AT" 5, .glo "_wall", .glo "is_integer", .glo "is_between", .glo "is_name", .glo "whole_in"] : List He.Fa) ++
  ([.glo "are_sizes", .glo "class_row", .glo "read_style", .glo "rank_pair", .glo "_law_pot", .glo "_law_take", .glo "_law_of", .glo "_law_name", .glo "_law_sizes", .glo "_law_classes", .glo "_law_pairs", .glo "_law_is_there", .glo "_law_pixel", .glo "_law_half", .glo "_law_distance"] : List He.Fa) ++
  ([.glo "_law_lore", .glo "_law_text", .glo "_law_number", .glo "_law_is_name", .glo "_law_is_class", .glo "_law_two", .glo "_law_is_pair", .glo "_law_first_wrong", .glo "_law_word_spoilt", .glo "_law_line_spoilt", .glo "_law_spoilt", .glo "_law_told", .glo "_law_right", .glo "law", .glo "ClassRow"] : List He.Fa) ++
  ([.glo "Reader", .glo "Style", .glo "LabelError", .glo "BadStyle", .glo "NoClass", .glo "BadZoom", .glo "BEHIND", .cls "ClassRow", .cls "Reader", .cls "Style", .mkr "ClassRow", .mkr "Reader", .mkr "Style", .noat "ClassRow" "own_name", .noat "ClassRow" "own_first"] : List He.Fa) ++
  ([.noat "ClassRow" "own_letters", .noat "ClassRow" "own_sizes", .noat "Reader" "own_sort", .noat "Reader" "own_last", .noat "Reader" "own_rows", .noat "Reader" "own_beside", .noat "Reader" "own_far", .noat "Style" "own_text", .noat "Style" "own_last", .noat "Style" "own_rows", .noat "Style" "own_ranks", .noat "Style" "own_beside", .noat "Style" "own_far", .meth "ClassRow" "__init__", .meth "ClassRow" "size_at"] : List He.Fa) ++
  ([.meth "ClassRow" "line", .meth "Reader" "__init__", .meth "Reader" "pair_of", .meth "Reader" "take", .meth "Reader" "take_zooms", .meth "Reader" "take_class", .meth "Reader" "take_beside", .meth "Reader" "take_far", .meth "Style" "__init__", .meth "Style" "__eq__", .meth "Style" "__iter__", .meth "Style" "__call__", .meth "Style" "check_zoom", .meth "Style" "rank_of", .meth "Style" "size"] : List He.Fa) ++
  ([.meth "Style" "letters", .meth "Style" "competes", .meth "Style" "far", .meth "Style" "do_compete", .meth "Style" "distance"] : List He.Fa)
def D_wall : DefA := ⟨fun K => He.ga K "_wall", "_wall", "_wall", defArgs d_wall, defBody d_wall, defScope d_wall⟩
def D_is_integer : DefA := ⟨fun K => He.ga K "is_integer", "is_integer", "is_integer", defArgs d_is_integer, defBody d_is_integer, defScope d_is_integer⟩
def D_is_between : DefA := ⟨fun K => He.ga K "is_between", "is_between", "is_between", defArgs d_is_between, defBody d_is_between, defScope d_is_between⟩
def D_is_name : DefA := ⟨fun K => He.ga K "is_name", "is_name", "is_name", defArgs d_is_name, defBody d_is_name, defScope d_is_name⟩
def D_whole_in : DefA := ⟨fun K => He.ga K "whole_in", "whole_in", "whole_in", defArgs d_whole_in, defBody d_whole_in, defScope d_whole_in⟩
def D_are_sizes : DefA := ⟨fun K => He.ga K "are_sizes", "are_sizes", "are_sizes", defArgs d_are_sizes, defBody d_are_sizes, defScope d_are_sizes⟩
def D_class_row : DefA := ⟨fun K => He.ga K "class_row", "class_row", "class_row", defArgs d_class_row, defBody d_class_row, defScope d_class_row⟩
def D_read_style : DefA := ⟨fun K => He.ga K "read_style", "read_style", "read_style", defArgs d_read_style, defBody d_read_style, defScope d_read_style⟩
def D_rank_pair : DefA := ⟨fun K => He.ga K "rank_pair", "rank_pair", "rank_pair", defArgs d_rank_pair, defBody d_rank_pair, defScope d_rank_pair⟩
def D_law_pot : DefA := ⟨fun K => He.ga K "_law_pot", "_law_pot", "_law_pot", defArgs d_law_pot, defBody d_law_pot, defScope d_law_pot⟩
def D_law_take : DefA := ⟨fun K => He.ga K "_law_take", "_law_take", "_law_take", defArgs d_law_take, defBody d_law_take, defScope d_law_take⟩
def D_law_of : DefA := ⟨fun K => He.ga K "_law_of", "_law_of", "_law_of", defArgs d_law_of, defBody d_law_of, defScope d_law_of⟩
def D_law_name : DefA := ⟨fun K => He.ga K "_law_name", "_law_name", "_law_name", defArgs d_law_name, defBody d_law_name, defScope d_law_name⟩
def D_law_sizes : DefA := ⟨fun K => He.ga K "_law_sizes", "_law_sizes", "_law_sizes", defArgs d_law_sizes, defBody d_law_sizes, defScope d_law_sizes⟩
def D_law_classes : DefA := ⟨fun K => He.ga K "_law_classes", "_law_classes", "_law_classes", defArgs d_law_classes, defBody d_law_classes, defScope d_law_classes⟩
def D_law_pairs : DefA := ⟨fun K => He.ga K "_law_pairs", "_law_pairs", "_law_pairs", defArgs d_law_pairs, defBody d_law_pairs, defScope d_law_pairs⟩
def D_law_is_there : DefA := ⟨fun K => He.ga K "_law_is_there", "_law_is_there", "_law_is_there", defArgs d_law_is_there, defBody d_law_is_there, defScope d_law_is_there⟩
def D_law_pixel : DefA := ⟨fun K => He.ga K "_law_pixel", "_law_pixel", "_law_pixel", defArgs d_law_pixel, defBody d_law_pixel, defScope d_law_pixel⟩
def D_law_half : DefA := ⟨fun K => He.ga K "_law_half", "_law_half", "_law_half", defArgs d_law_half, defBody d_law_half, defScope d_law_half⟩
def D_law_distance : DefA := ⟨fun K => He.ga K "_law_distance", "_law_distance", "_law_distance", defArgs d_law_distance, defBody d_law_distance, defScope d_law_distance⟩
def D_law_lore : DefA := ⟨fun K => He.ga K "_law_lore", "_law_lore", "_law_lore", defArgs d_law_lore, defBody d_law_lore, defScope d_law_lore⟩
def D_law_text : DefA := ⟨fun K => He.ga K "_law_text", "_law_text", "_law_text", defArgs d_law_text, defBody d_law_text, defScope d_law_text⟩
def D_law_number : DefA := ⟨fun K => He.ga K "_law_number", "_law_number", "_law_number", defArgs d_law_number, defBody d_law_number, defScope d_law_number⟩
def D_law_is_name : DefA := ⟨fun K => He.ga K "_law_is_name", "_law_is_name", "_law_is_name", defArgs d_law_is_name, defBody d_law_is_name, defScope d_law_is_name⟩
def D_law_is_class : DefA := ⟨fun K => He.ga K "_law_is_class", "_law_is_class", "_law_is_class", defArgs d_law_is_class, defBody d_law_is_class, defScope d_law_is_class⟩
def D_law_two : DefA := ⟨fun K => He.ga K "_law_two", "_law_two", "_law_two", defArgs d_law_two, defBody d_law_two, defScope d_law_two⟩
def D_law_is_pair : DefA := ⟨fun K => He.ga K "_law_is_pair", "_law_is_pair", "_law_is_pair", defArgs d_law_is_pair, defBody d_law_is_pair, defScope d_law_is_pair⟩
def D_law_first_wrong : DefA := ⟨fun K => He.ga K "_law_first_wrong", "_law_first_wrong", "_law_first_wrong", defArgs d_law_first_wrong, defBody d_law_first_wrong, defScope d_law_first_wrong⟩
def D_law_word_spoilt : DefA := ⟨fun K => He.ga K "_law_word_spoilt", "_law_word_spoilt", "_law_word_spoilt", defArgs d_law_word_spoilt, defBody d_law_word_spoilt, defScope d_law_word_spoilt⟩
def D_law_line_spoilt : DefA := ⟨fun K => He.ga K "_law_line_spoilt", "_law_line_spoilt", "_law_line_spoilt", defArgs d_law_line_spoilt, defBody d_law_line_spoilt, defScope d_law_line_spoilt⟩
def D_law_spoilt : DefA := ⟨fun K => He.ga K "_law_spoilt", "_law_spoilt", "_law_spoilt", defArgs d_law_spoilt, defBody d_law_spoilt, defScope d_law_spoilt⟩
def D_law_told : DefA := ⟨fun K => He.ga K "_law_told", "_law_told", "_law_told", defArgs d_law_told, defBody d_law_told, defScope d_law_told⟩
def D_law_right : DefA := ⟨fun K => He.ga K "_law_right", "_law_right", "_law_right", defArgs d_law_right, defBody d_law_right, defScope d_law_right⟩
def D_law : DefA := ⟨fun K => He.ga K "law", "law", "law", defArgs d_law, defBody d_law, defScope d_law⟩
def D_ClassRow_init : DefA := ⟨fun K => He.ma K (He.ga K "ClassRow") "__init__", "__init__", "ClassRow.__init__", defArgs d_ClassRow_init, defBody d_ClassRow_init, defScope d_ClassRow_init⟩
def D_ClassRow_size_at : DefA := ⟨fun K => He.ma K (He.ga K "ClassRow") "size_at", "size_at", "ClassRow.size_at", defArgs d_ClassRow_size_at, defBody d_ClassRow_size_at, defScope d_ClassRow_size_at⟩
def D_ClassRow_line : DefA := ⟨fun K => He.ma K (He.ga K "ClassRow") "line", "line", "ClassRow.line", defArgs d_ClassRow_line, defBody d_ClassRow_line, defScope d_ClassRow_line⟩
def D_Reader_init : DefA := ⟨fun K => He.ma K (He.ga K "Reader") "__init__", "__init__", "Reader.__init__", defArgs d_Reader_init, defBody d_Reader_init, defScope d_Reader_init⟩
def D_Reader_pair_of : DefA := ⟨fun K => He.ma K (He.ga K "Reader") "pair_of", "pair_of", "Reader.pair_of", defArgs d_Reader_pair_of, defBody d_Reader_pair_of, defScope d_Reader_pair_of⟩
def D_Reader_take : DefA := ⟨fun K => He.ma K (He.ga K "Reader") "take", "take", "Reader.take", defArgs d_Reader_take, defBody d_Reader_take, defScope d_Reader_take⟩
def D_Reader_take_zooms : DefA := ⟨fun K => He.ma K (He.ga K "Reader") "take_zooms", "take_zooms", "Reader.take_zooms", defArgs d_Reader_take_zooms, defBody d_Reader_take_zooms, defScope d_Reader_take_zooms⟩
def D_Reader_take_class : DefA := ⟨fun K => He.ma K (He.ga K "Reader") "take_class", "take_class", "Reader.take_class", defArgs d_Reader_take_class, defBody d_Reader_take_class, defScope d_Reader_take_class⟩
def D_Reader_take_beside : DefA := ⟨fun K => He.ma K (He.ga K "Reader") "take_beside", "take_beside", "Reader.take_beside", defArgs d_Reader_take_beside, defBody d_Reader_take_beside, defScope d_Reader_take_beside⟩
def D_Reader_take_far : DefA := ⟨fun K => He.ma K (He.ga K "Reader") "take_far", "take_far", "Reader.take_far", defArgs d_Reader_take_far, defBody d_Reader_take_far, defScope d_Reader_take_far⟩
def D_Style_init : DefA := ⟨fun K => He.ma K (He.ga K "Style") "__init__", "__init__", "Style.__init__", defArgs d_Style_init, defBody d_Style_init, defScope d_Style_init⟩
def D_Style_eq : DefA := ⟨fun K => He.ma K (He.ga K "Style") "__eq__", "__eq__", "Style.__eq__", defArgs d_Style_eq, defBody d_Style_eq, defScope d_Style_eq⟩
def D_Style_iter : DefA := ⟨fun K => He.ma K (He.ga K "Style") "__iter__", "__iter__", "Style.__iter__", defArgs d_Style_iter, defBody d_Style_iter, defScope d_Style_iter⟩
def D_Style_call : DefA := ⟨fun K => He.ma K (He.ga K "Style") "__call__", "__call__", "Style.__call__", defArgs d_Style_call, defBody d_Style_call, defScope d_Style_call⟩
def D_Style_text : DefA := ⟨fun K => pga K (He.ma K (He.ga K "Style") "text"), "text", "Style.text", defArgs d_Style_text, defBody d_Style_text, defScope d_Style_text⟩
def D_Style_last : DefA := ⟨fun K => pga K (He.ma K (He.ga K "Style") "last"), "last", "Style.last", defArgs d_Style_last, defBody d_Style_last, defScope d_Style_last⟩
def D_Style_classes : DefA := ⟨fun K => pga K (He.ma K (He.ga K "Style") "classes"), "classes", "Style.classes", defArgs d_Style_classes, defBody d_Style_classes, defScope d_Style_classes⟩
def D_Style_check_zoom : DefA := ⟨fun K => He.ma K (He.ga K "Style") "check_zoom", "check_zoom", "Style.check_zoom", defArgs d_Style_check_zoom, defBody d_Style_check_zoom, defScope d_Style_check_zoom⟩
def D_Style_rank_of : DefA := ⟨fun K => He.ma K (He.ga K "Style") "rank_of", "rank_of", "Style.rank_of", defArgs d_Style_rank_of, defBody d_Style_rank_of, defScope d_Style_rank_of⟩
def D_Style_size : DefA := ⟨fun K => He.ma K (He.ga K "Style") "size", "size", "Style.size", defArgs d_Style_size, defBody d_Style_size, defScope d_Style_size⟩
def D_Style_letters : DefA := ⟨fun K => He.ma K (He.ga K "Style") "letters", "letters", "Style.letters", defArgs d_Style_letters, defBody d_Style_letters, defScope d_Style_letters⟩
def D_Style_competes : DefA := ⟨fun K => He.ma K (He.ga K "Style") "competes", "competes", "Style.competes", defArgs d_Style_competes, defBody d_Style_competes, defScope d_Style_competes⟩
def D_Style_far : DefA := ⟨fun K => He.ma K (He.ga K "Style") "far", "far", "Style.far", defArgs d_Style_far, defBody d_Style_far, defScope d_Style_far⟩
def D_Style_do_compete : DefA := ⟨fun K => He.ma K (He.ga K "Style") "do_compete", "do_compete", "Style.do_compete", defArgs d_Style_do_compete, defBody d_Style_do_compete, defScope d_Style_do_compete⟩
def D_Style_distance : DefA := ⟨fun K => He.ma K (He.ga K "Style") "distance", "distance", "Style.distance", defArgs d_Style_distance, defBody d_Style_distance, defScope d_Style_distance⟩
def fn : List DefA := ([D_wall, D_is_integer, D_is_between, D_is_name, D_whole_in, D_are_sizes, D_class_row, D_read_style, D_rank_pair, D_law_pot, D_law_take, D_law_of, D_law_name, D_law_sizes, D_law_classes] : List DefA) ++
  ([D_law_pairs, D_law_is_there, D_law_pixel, D_law_half, D_law_distance, D_law_lore, D_law_text, D_law_number, D_law_is_name, D_law_is_class, D_law_two, D_law_is_pair, D_law_first_wrong, D_law_word_spoilt, D_law_line_spoilt] : List DefA) ++
  ([D_law_spoilt, D_law_told, D_law_right, D_law, D_ClassRow_init, D_ClassRow_size_at, D_ClassRow_line, D_Reader_init, D_Reader_pair_of, D_Reader_take, D_Reader_take_zooms, D_Reader_take_class, D_Reader_take_beside, D_Reader_take_far, D_Style_init] : List DefA) ++
  ([D_Style_eq, D_Style_iter, D_Style_call, D_Style_text, D_Style_last, D_Style_classes, D_Style_check_zoom, D_Style_rank_of, D_Style_size, D_Style_letters, D_Style_competes, D_Style_far, D_Style_do_compete, D_Style_distance] : List DefA)
def ts : List He.Tab := [(fun K => He.ga K "BEHIND", ["", "zooms", "class", "beside", "far"])]
abbrev sIni : Stmt := inClass (top 2) 0
def iv : FnI := some ("__init__", "LabelError.__init__", defArgs sIni, .stmts (defBody sIni), defScope sIni, mainGlobals, builtinsNs, ["__class__"])
theorem iv_eq : iv = iniV ⟨7, 17, 7, 21⟩ ⟨7, 23, 7, 28⟩ ⟨8, 8, 8, 13⟩ ⟨8, 8, 8, 15⟩ ⟨8, 8, 8, 24⟩ ⟨8, 25, 8, 30⟩ ⟨8, 8, 8, 31⟩ ⟨8, 8, 8, 31⟩ ⟨9, 8, 9, 12⟩ ⟨9, 8, 9, 18⟩ ⟨9, 21, 9, 26⟩ ⟨9, 8, 9, 26⟩ := rfl
def exL : List (PySem.W.Frag → Bool) := ([fun K => (K.lookup sysModules).isSome, fun K => isCB K (He.ga K "ClassRow"), fun K => isCB K (He.ga K "Reader"), fun K => isCB K (He.ga K "Style"), fun K => prB K (He.ga K "Style") "text", fun K => prB K (He.ga K "Style") "last", fun K => prB K (He.ga K "Style") "classes", fun K => errB K (He.ga K "LabelError") (fIn K) (He.ga K "LabelError"), fun K => errB K (He.ga K "LabelError") (fIn K) (He.ga K "BadStyle"), fun K => errB K (He.ga K "LabelError") (fIn K) (He.ga K "NoClass"), fun K => errB K (He.ga K "LabelError") (fIn K) (He.ga K "BadZoom"), fun K => iniB prg K (He.ga K "LabelError") (fIn K), fun K => strsB K (He.ga K "BEHIND") "" ["zooms"], fun K => strsB K (He.ga K "BEHIND") "zooms" ["class"], fun K => strsB K (He.ga K "BEHIND") "class" ["class", "beside", "far"]] : List (PySem.W.Frag → Bool)) ++
  ([fun K => strsB K (He.ga K "BEHIND") "beside" ["beside", "far"], fun K => strsB K (He.ga K "BEHIND") "far" ["far"]] : List (PySem.W.Frag → Bool))
def exB (K : PySem.W.Frag) : Bool := exL.all fun f => f K
abbrev R : PySem.W.OpenRow := PySem.W.OpenLaw.row PySem.Challenge.rw_steadylabels_k02_whole_the_first_wrong_l
abbrev hk : PySem.W.Hook := hookZ 5 fa fn ts fIn iv exB
def ob (s : PySem.W.SharedT) : AlZ := obsZ fa fn ts fIn exB (fragX 5 (HandSHeadRun.getT s))
theorem ob_eq (s : PySem.W.SharedT) : ob s = hk.obs s.abs := obsZ_eq (HandSHeadRun.getT_eq s)
def loose : List Str := (["_wall", "LabelError", "BadStyle", "NoClass", "BadZoom", "LETTERS", "FIGURES", "MOST_LETTERS", "ZERO", "is_integer", "is_between", "is_name", "whole_in", "ZOOMS", "CLASS"] : List Str) ++
  (["BESIDE", "FAR", "BEHIND", "MOST_ZOOMS", "MOST_CLASSES", "LEAST_SIZE", "MOST_SIZE", "MOST_LEAST", "MOST_MORE", "MOST_FAR", "ZOOMS_WORDS", "CLASS_WORDS", "BESIDE_WORDS", "FAR_WORDS", "SIZES_AT"] : List Str) ++
  (["ClassRow", "are_sizes", "class_row", "Reader", "read_style", "rank_pair", "Style", "_law_pot", "_law_take", "_law_of", "_law_name", "_law_sizes", "_law_classes", "_law_pairs", "_law_is_there"] : List Str) ++
  (["_law_pixel", "_law_half", "_law_distance", "_law_lore", "_law_text", "_law_number", "_law_is_name", "_law_is_class", "_law_two", "_law_is_pair", "_law_first_wrong", "_law_word_spoilt", "_law_line_spoilt", "_law_spoilt", "_law_told"] : List Str) ++
  (["_law_right"] : List Str)
theorem runF (w : World) : HandSHeadRun.RunEq R (PySem.W.view R.prog [65]) hk ob 30000 loose (w.withFollow "special-get-raises" false) := by
  intro os
  kernel_rfl
theorem runT (w : World) : HandSHeadRun.RunEq R (PySem.W.view R.prog [65]) hk ob 30000 loose (w.withFollow "special-get-raises" true) := by
  intro os
  kernel_rfl
theorem run (w : World) : HandSHeadRun.RunEq R (PySem.W.view R.prog [65]) hk ob 30000 loose w := PySem.W.byRow2 "special-get-raises" (P := fun w => HandSHeadRun.RunEq R (PySem.W.view R.prog [65]) hk ob 30000 loose w) runF runT w
theorem exAt {K : PySem.W.Frag} (h : exB K = true) (i : Nat) {f : PySem.W.Frag → Bool} (e : exL[i]? = some f := by rfl) : f K = true := List.all_eq_true.mp h f (List.mem_of_getElem? e)
theorem tops {w : World} {K : PySem.W.Frag} {h : Heap} {mg : Str → Option Value} (X : K.In h) (G : h.Ns mainGlobals mg) (c : SaysZ fa fn ts fIn iv exB w K) : Top w K mg where
  b_TypeError := He.free_ok X G (c.fact 0 (f := .free "TypeError") rfl)
  b_ValueError := He.free_ok X G (c.fact 1 (f := .free "ValueError") rfl)
  b_abs := He.free_ok X G (c.fact 2 (f := .free "abs") rfl)
  b_all := He.free_ok X G (c.fact 3 (f := .free "all") rfl)
  b_bool := He.free_ok X G (c.fact 4 (f := .free "bool") rfl)
  b_dict := He.free_ok X G (c.fact 5 (f := .free "dict") rfl)
  b_enumerate := He.free_ok X G (c.fact 6 (f := .free "enumerate") rfl)
  b_int := He.free_ok X G (c.fact 7 (f := .free "int") rfl)
  b_isinstance := He.free_ok X G (c.fact 8 (f := .free "isinstance") rfl)
  b_len := He.free_ok X G (c.fact 9 (f := .free "len") rfl)
  b_list := He.free_ok X G (c.fact 10 (f := .free "list") rfl)
  b_max := He.free_ok X G (c.fact 11 (f := .free "max") rfl)
  b_min := He.free_ok X G (c.fact 12 (f := .free "min") rfl)
  b_property := He.free_ok X G (c.fact 13 (f := .free "property") rfl)
  b_range := He.free_ok X G (c.fact 14 (f := .free "range") rfl)
  b_repr := He.free_ok X G (c.fact 15 (f := .free "repr") rfl)
  b_str := He.free_ok X G (c.fact 16 (f := .free "str") rfl)
  b_super := He.free_ok X G (c.fact 17 (f := .free "super") rfl)
  b_tuple := He.free_ok X G (c.fact 18 (f := .free "tuple") rfl)
  b_zip := He.free_ok X G (c.fact 19 (f := .free "zip") rfl)
  c_LETTERS := He.str_ok X G (c.fact 20 (f := .str "LETTERS" "abcdefghijklmnopqrstuvwxyz") rfl)
  c_FIGURES := He.str_ok X G (c.fact 21 (f := .str "FIGURES" "0123456789") rfl)
  c_MOST_LETTERS := He.int_ok X G (c.fact 22 (f := .int "MOST_LETTERS" 12) rfl)
  c_ZERO := He.str_ok X G (c.fact 23 (f := .str "ZERO" "0") rfl)
  c_ZOOMS := He.str_ok X G (c.fact 24 (f := .str "ZOOMS" "zooms") rfl)
  c_CLASS := He.str_ok X G (c.fact 25 (f := .str "CLASS" "class") rfl)
  c_BESIDE := He.str_ok X G (c.fact 26 (f := .str "BESIDE" "beside") rfl)
  c_FAR := He.str_ok X G (c.fact 27 (f := .str "FAR" "far") rfl)
  c_MOST_ZOOMS := He.int_ok X G (c.fact 28 (f := .int "MOST_ZOOMS" 5) rfl)
  c_MOST_CLASSES := He.int_ok X G (c.fact 29 (f := .int "MOST_CLASSES" 4) rfl)
  c_LEAST_SIZE := He.int_ok X G (c.fact 30 (f := .int "LEAST_SIZE" 2) rfl)
  c_MOST_SIZE := He.int_ok X G (c.fact 31 (f := .int "MOST_SIZE" 9) rfl)
  c_MOST_LEAST := He.int_ok X G (c.fact 32 (f := .int "MOST_LEAST" 9) rfl)
  c_MOST_MORE := He.int_ok X G (c.fact 33 (f := .int "MOST_MORE" 3) rfl)
  c_MOST_FAR := He.int_ok X G (c.fact 34 (f := .int "MOST_FAR" 9999) rfl)
  c_ZOOMS_WORDS := He.int_ok X G (c.fact 35 (f := .int "ZOOMS_WORDS" 2) rfl)
  c_CLASS_WORDS := He.int_ok X G (c.fact 36 (f := .int "CLASS_WORDS" 6) rfl)
  c_BESIDE_WORDS := He.int_ok X G (c.fact 37 (f := .int "BESIDE_WORDS" 3) rfl)
  c_FAR_WORDS := He.int_ok X G (c.fact 38 (f := .int "FAR_WORDS" 4) rfl)
  c_SIZES_AT := He.int_ok X G (c.fact 39 (f := .int "SIZES_AT" 5) rfl)
  g_wall := He.glo_ok X G (c.fact 40 (f := .glo "_wall") rfl)
  g_is_integer := He.glo_ok X G (c.fact 41 (f := .glo "is_integer") rfl)
  g_is_between := He.glo_ok X G (c.fact 42 (f := .glo "is_between") rfl)
  g_is_name := He.glo_ok X G (c.fact 43 (f := .glo "is_name") rfl)
  g_whole_in := He.glo_ok X G (c.fact 44 (f := .glo "whole_in") rfl)
  g_are_sizes := He.glo_ok X G (c.fact 45 (f := .glo "are_sizes") rfl)
  g_class_row := He.glo_ok X G (c.fact 46 (f := .glo "class_row") rfl)
  g_read_style := He.glo_ok X G (c.fact 47 (f := .glo "read_style") rfl)
  g_rank_pair := He.glo_ok X G (c.fact 48 (f := .glo "rank_pair") rfl)
  g_law_pot := He.glo_ok X G (c.fact 49 (f := .glo "_law_pot") rfl)
  g_law_take := He.glo_ok X G (c.fact 50 (f := .glo "_law_take") rfl)
  g_law_of := He.glo_ok X G (c.fact 51 (f := .glo "_law_of") rfl)
  g_law_name := He.glo_ok X G (c.fact 52 (f := .glo "_law_name") rfl)
  g_law_sizes := He.glo_ok X G (c.fact 53 (f := .glo "_law_sizes") rfl)
  g_law_classes := He.glo_ok X G (c.fact 54 (f := .glo "_law_classes") rfl)
  g_law_pairs := He.glo_ok X G (c.fact 55 (f := .glo "_law_pairs") rfl)
  g_law_is_there := He.glo_ok X G (c.fact 56 (f := .glo "_law_is_there") rfl)
  g_law_pixel := He.glo_ok X G (c.fact 57 (f := .glo "_law_pixel") rfl)
  g_law_half := He.glo_ok X G (c.fact 58 (f := .glo "_law_half") rfl)
  g_law_distance := He.glo_ok X G (c.fact 59 (f := .glo "_law_distance") rfl)
  g_law_lore := He.glo_ok X G (c.fact 60 (f := .glo "_law_lore") rfl)
  g_law_text := He.glo_ok X G (c.fact 61 (f := .glo "_law_text") rfl)
  g_law_number := He.glo_ok X G (c.fact 62 (f := .glo "_law_number") rfl)
  g_law_is_name := He.glo_ok X G (c.fact 63 (f := .glo "_law_is_name") rfl)
  g_law_is_class := He.glo_ok X G (c.fact 64 (f := .glo "_law_is_class") rfl)
  g_law_two := He.glo_ok X G (c.fact 65 (f := .glo "_law_two") rfl)
  g_law_is_pair := He.glo_ok X G (c.fact 66 (f := .glo "_law_is_pair") rfl)
  g_law_first_wrong := He.glo_ok X G (c.fact 67 (f := .glo "_law_first_wrong") rfl)
  g_law_word_spoilt := He.glo_ok X G (c.fact 68 (f := .glo "_law_word_spoilt") rfl)
  g_law_line_spoilt := He.glo_ok X G (c.fact 69 (f := .glo "_law_line_spoilt") rfl)
  g_law_spoilt := He.glo_ok X G (c.fact 70 (f := .glo "_law_spoilt") rfl)
  g_law_told := He.glo_ok X G (c.fact 71 (f := .glo "_law_told") rfl)
  g_law_right := He.glo_ok X G (c.fact 72 (f := .glo "_law_right") rfl)
  g_law := He.glo_ok X G (c.fact 73 (f := .glo "law") rfl)
  g_ClassRow := He.glo_ok X G (c.fact 74 (f := .glo "ClassRow") rfl)
  g_Reader := He.glo_ok X G (c.fact 75 (f := .glo "Reader") rfl)
  g_Style := He.glo_ok X G (c.fact 76 (f := .glo "Style") rfl)
  g_LabelError := He.glo_ok X G (c.fact 77 (f := .glo "LabelError") rfl)
  g_BadStyle := He.glo_ok X G (c.fact 78 (f := .glo "BadStyle") rfl)
  g_NoClass := He.glo_ok X G (c.fact 79 (f := .glo "NoClass") rfl)
  g_BadZoom := He.glo_ok X G (c.fact 80 (f := .glo "BadZoom") rfl)
  g_BEHIND := He.glo_ok X G (c.fact 81 (f := .glo "BEHIND") rfl)
  cl_ClassRow := He.cls_ok (c.fact 82 (f := .cls "ClassRow") rfl)
  cl_Reader := He.cls_ok (c.fact 83 (f := .cls "Reader") rfl)
  cl_Style := He.cls_ok (c.fact 84 (f := .cls "Style") rfl)
  mk_ClassRow := He.mkr_ok (c.fact 85 (f := .mkr "ClassRow") rfl)
  mk_Reader := He.mkr_ok (c.fact 86 (f := .mkr "Reader") rfl)
  mk_Style := He.mkr_ok (c.fact 87 (f := .mkr "Style") rfl)
  na_ClassRow_own_name := He.noat_ok (c.fact 88 (f := .noat "ClassRow" "own_name") rfl)
  na_ClassRow_own_first := He.noat_ok (c.fact 89 (f := .noat "ClassRow" "own_first") rfl)
  na_ClassRow_own_letters := He.noat_ok (c.fact 90 (f := .noat "ClassRow" "own_letters") rfl)
  na_ClassRow_own_sizes := He.noat_ok (c.fact 91 (f := .noat "ClassRow" "own_sizes") rfl)
  na_Reader_own_sort := He.noat_ok (c.fact 92 (f := .noat "Reader" "own_sort") rfl)
  na_Reader_own_last := He.noat_ok (c.fact 93 (f := .noat "Reader" "own_last") rfl)
  na_Reader_own_rows := He.noat_ok (c.fact 94 (f := .noat "Reader" "own_rows") rfl)
  na_Reader_own_beside := He.noat_ok (c.fact 95 (f := .noat "Reader" "own_beside") rfl)
  na_Reader_own_far := He.noat_ok (c.fact 96 (f := .noat "Reader" "own_far") rfl)
  na_Style_own_text := He.noat_ok (c.fact 97 (f := .noat "Style" "own_text") rfl)
  na_Style_own_last := He.noat_ok (c.fact 98 (f := .noat "Style" "own_last") rfl)
  na_Style_own_rows := He.noat_ok (c.fact 99 (f := .noat "Style" "own_rows") rfl)
  na_Style_own_ranks := He.noat_ok (c.fact 100 (f := .noat "Style" "own_ranks") rfl)
  na_Style_own_beside := He.noat_ok (c.fact 101 (f := .noat "Style" "own_beside") rfl)
  na_Style_own_far := He.noat_ok (c.fact 102 (f := .noat "Style" "own_far") rfl)
  m_ClassRow_init := He.meth_ok (c.fact 103 (f := .meth "ClassRow" "__init__") rfl)
  m_ClassRow_size_at := He.meth_ok (c.fact 104 (f := .meth "ClassRow" "size_at") rfl)
  m_ClassRow_line := He.meth_ok (c.fact 105 (f := .meth "ClassRow" "line") rfl)
  m_Reader_init := He.meth_ok (c.fact 106 (f := .meth "Reader" "__init__") rfl)
  m_Reader_pair_of := He.meth_ok (c.fact 107 (f := .meth "Reader" "pair_of") rfl)
  m_Reader_take := He.meth_ok (c.fact 108 (f := .meth "Reader" "take") rfl)
  m_Reader_take_zooms := He.meth_ok (c.fact 109 (f := .meth "Reader" "take_zooms") rfl)
  m_Reader_take_class := He.meth_ok (c.fact 110 (f := .meth "Reader" "take_class") rfl)
  m_Reader_take_beside := He.meth_ok (c.fact 111 (f := .meth "Reader" "take_beside") rfl)
  m_Reader_take_far := He.meth_ok (c.fact 112 (f := .meth "Reader" "take_far") rfl)
  m_Style_init := He.meth_ok (c.fact 113 (f := .meth "Style" "__init__") rfl)
  m_Style_eq := He.meth_ok (c.fact 114 (f := .meth "Style" "__eq__") rfl)
  m_Style_iter := He.meth_ok (c.fact 115 (f := .meth "Style" "__iter__") rfl)
  m_Style_call := He.meth_ok (c.fact 116 (f := .meth "Style" "__call__") rfl)
  m_Style_check_zoom := He.meth_ok (c.fact 117 (f := .meth "Style" "check_zoom") rfl)
  m_Style_rank_of := He.meth_ok (c.fact 118 (f := .meth "Style" "rank_of") rfl)
  m_Style_size := He.meth_ok (c.fact 119 (f := .meth "Style" "size") rfl)
  m_Style_letters := He.meth_ok (c.fact 120 (f := .meth "Style" "letters") rfl)
  m_Style_competes := He.meth_ok (c.fact 121 (f := .meth "Style" "competes") rfl)
  m_Style_far := He.meth_ok (c.fact 122 (f := .meth "Style" "far") rfl)
  m_Style_do_compete := He.meth_ok (c.fact 123 (f := .meth "Style" "do_compete") rfl)
  m_Style_distance := He.meth_ok (c.fact 124 (f := .meth "Style" "distance") rfl)
  sys := (exAt c.exB 0 (f := fun K => (K.lookup sysModules).isSome))
  is_ClassRow := isCB_ok (exAt c.exB 1 (f := fun K => isCB K (He.ga K "ClassRow")))
  is_Reader := isCB_ok (exAt c.exB 2 (f := fun K => isCB K (He.ga K "Reader")))
  is_Style := isCB_ok (exAt c.exB 3 (f := fun K => isCB K (He.ga K "Style")))
  p_Style_text := prB_ok (exAt c.exB 4 (f := fun K => prB K (He.ga K "Style") "text"))
  p_Style_last := prB_ok (exAt c.exB 5 (f := fun K => prB K (He.ga K "Style") "last"))
  p_Style_classes := prB_ok (exAt c.exB 6 (f := fun K => prB K (He.ga K "Style") "classes"))
  er_LabelError := errB_ok (exAt c.exB 7 (f := fun K => errB K (He.ga K "LabelError") (fIn K) (He.ga K "LabelError")))
  er_BadStyle := errB_ok (exAt c.exB 8 (f := fun K => errB K (He.ga K "LabelError") (fIn K) (He.ga K "BadStyle")))
  er_NoClass := errB_ok (exAt c.exB 9 (f := fun K => errB K (He.ga K "LabelError") (fIn K) (He.ga K "NoClass")))
  er_BadZoom := errB_ok (exAt c.exB 10 (f := fun K => errB K (He.ga K "LabelError") (fIn K) (He.ga K "BadZoom")))
  t_BEHIND_0 := strsB_ok (exAt c.exB 12 (f := fun K => strsB K (He.ga K "BEHIND") "" ["zooms"]))
  t_BEHIND_1 := strsB_ok (exAt c.exB 13 (f := fun K => strsB K (He.ga K "BEHIND") "zooms" ["class"]))
  t_BEHIND_2 := strsB_ok (exAt c.exB 14 (f := fun K => strsB K (He.ga K "BEHIND") "class" ["class", "beside", "far"]))
  t_BEHIND_3 := strsB_ok (exAt c.exB 15 (f := fun K => strsB K (He.ga K "BEHIND") "beside" ["beside", "far"]))
  t_BEHIND_4 := strsB_ok (exAt c.exB 16 (f := fun K => strsB K (He.ga K "BEHIND") "far" ["far"]))
  F_wall := c.def_ 0 (d := D_wall) rfl
  F_is_integer := c.def_ 1 (d := D_is_integer) rfl
  F_is_between := c.def_ 2 (d := D_is_between) rfl
  F_is_name := c.def_ 3 (d := D_is_name) rfl
  F_whole_in := c.def_ 4 (d := D_whole_in) rfl
  F_are_sizes := c.def_ 5 (d := D_are_sizes) rfl
  F_class_row := c.def_ 6 (d := D_class_row) rfl
  F_read_style := c.def_ 7 (d := D_read_style) rfl
  F_rank_pair := c.def_ 8 (d := D_rank_pair) rfl
  F_law_pot := c.def_ 9 (d := D_law_pot) rfl
  F_law_take := c.def_ 10 (d := D_law_take) rfl
  F_law_of := c.def_ 11 (d := D_law_of) rfl
  F_law_name := c.def_ 12 (d := D_law_name) rfl
  F_law_sizes := c.def_ 13 (d := D_law_sizes) rfl
  F_law_classes := c.def_ 14 (d := D_law_classes) rfl
  F_law_pairs := c.def_ 15 (d := D_law_pairs) rfl
  F_law_is_there := c.def_ 16 (d := D_law_is_there) rfl
  F_law_pixel := c.def_ 17 (d := D_law_pixel) rfl
  F_law_half := c.def_ 18 (d := D_law_half) rfl
  F_law_distance := c.def_ 19 (d := D_law_distance) rfl
  F_law_lore := c.def_ 20 (d := D_law_lore) rfl
  F_law_text := c.def_ 21 (d := D_law_text) rfl
  F_law_number := c.def_ 22 (d := D_law_number) rfl
  F_law_is_name := c.def_ 23 (d := D_law_is_name) rfl
  F_law_is_class := c.def_ 24 (d := D_law_is_class) rfl
  F_law_two := c.def_ 25 (d := D_law_two) rfl
  F_law_is_pair := c.def_ 26 (d := D_law_is_pair) rfl
  F_law_first_wrong := c.def_ 27 (d := D_law_first_wrong) rfl
  F_law_word_spoilt := c.def_ 28 (d := D_law_word_spoilt) rfl
  F_law_line_spoilt := c.def_ 29 (d := D_law_line_spoilt) rfl
  F_law_spoilt := c.def_ 30 (d := D_law_spoilt) rfl
  F_law_told := c.def_ 31 (d := D_law_told) rfl
  F_law_right := c.def_ 32 (d := D_law_right) rfl
  F_law := c.def_ 33 (d := D_law) rfl
  F_ClassRow_init := c.def_ 34 (d := D_ClassRow_init) rfl
  F_ClassRow_size_at := c.def_ 35 (d := D_ClassRow_size_at) rfl
  F_ClassRow_line := c.def_ 36 (d := D_ClassRow_line) rfl
  F_Reader_init := c.def_ 37 (d := D_Reader_init) rfl
  F_Reader_pair_of := c.def_ 38 (d := D_Reader_pair_of) rfl
  F_Reader_take := c.def_ 39 (d := D_Reader_take) rfl
  F_Reader_take_zooms := c.def_ 40 (d := D_Reader_take_zooms) rfl
  F_Reader_take_class := c.def_ 41 (d := D_Reader_take_class) rfl
  F_Reader_take_beside := c.def_ 42 (d := D_Reader_take_beside) rfl
  F_Reader_take_far := c.def_ 43 (d := D_Reader_take_far) rfl
  F_Style_init := c.def_ 44 (d := D_Style_init) rfl
  F_Style_eq := c.def_ 45 (d := D_Style_eq) rfl
  F_Style_iter := c.def_ 46 (d := D_Style_iter) rfl
  F_Style_call := c.def_ 47 (d := D_Style_call) rfl
  F_Style_text := c.def_ 48 (d := D_Style_text) rfl
  F_Style_last := c.def_ 49 (d := D_Style_last) rfl
  F_Style_classes := c.def_ 50 (d := D_Style_classes) rfl
  F_Style_check_zoom := c.def_ 51 (d := D_Style_check_zoom) rfl
  F_Style_rank_of := c.def_ 52 (d := D_Style_rank_of) rfl
  F_Style_size := c.def_ 53 (d := D_Style_size) rfl
  F_Style_letters := c.def_ 54 (d := D_Style_letters) rfl
  F_Style_competes := c.def_ 55 (d := D_Style_competes) rfl
  F_Style_far := c.def_ 56 (d := D_Style_far) rfl
  F_Style_do_compete := c.def_ 57 (d := D_Style_do_compete) rfl
  F_Style_distance := c.def_ 58 (d := D_Style_distance) rfl
  ini := by
    have oi := c.ini
    rw [iv_eq] at oi
    obtain ⟨fdI, I0, hdf⟩ := iniB_ok (exAt c.exB 11 (f := fun K => iniB prg K (He.ga K "LabelError") (fIn K))) oi (by decide) (by decide +kernel)
    exact ⟨fdI, I0, hdf⟩
  t_BEHIND := c.tab 0 rfl
end SK
set_option maxHeartbeats 0
open PySem PySem.W PySem.Calls PyProof.Rows
theorem PySem.Challenge.cw_steadylabels_k02_whole_the_first_wrong_l_holds : PySem.Challenge.rw_steadylabels_k02_whole_the_first_wrong_l.Holds := by
  w_on; o_law
  refine HandSHeadRun.head_any (r := OpenLaw.row PySem.Challenge.rw_steadylabels_k02_whole_the_first_wrong_l) (q := view (OpenLaw.row PySem.Challenge.rw_steadylabels_k02_whole_the_first_wrong_l).prog [65]) (H := SK.hk) (ob := SK.ob) (M := 30000) (loose := SK.loose)
    (d := HandSHeadRun.topDef (OpenLaw.row PySem.Challenge.rw_steadylabels_k02_whole_the_first_wrong_l).prog 65) (kwd := []) SK.ob_eq (by kernel_rfl) (fun s => by kernel_rfl) SK.run (by kernel_rfl) (by kernel_rfl) (by kernel_rfl) (by rfl)
    (by first | assumption | decide +kernel) (by decide +kernel) ⟨rfl, rfl, rfl, rfl, rfl, by decide +kernel⟩ ?hw ?hc
  case hw => w_witness2
  case hc =>
    refine SL.walk_ofG (l := PySem.Challenge.rw_steadylabels_k02_whole_the_first_wrong_l) (n := 63) (k := 12) (x := "_law_script") (CX := fun _ => L2.CX0) rfl (by decide) (by kernel_rfl) ⟨rfl, by decide, by decide⟩ ?F (fun _ _ _ _ _ z => z)
    intro w mg fa h Y G hmg0
    obtain ⟨K, KX, o⟩ := Y
    have hmg : mg ("law" : PySem.Str) = some (.ref fa) := by
      have e : (HandSHeadRun.topDef (OpenLaw.row PySem.Challenge.rw_steadylabels_k02_whole_the_first_wrong_l).prog 65).name = ("law" : PySem.Str) := by kernel_rfl
      rw [← e]
      exact hmg0
    have T := SK.tops KX G o
    have e := hmg.symm.trans T.g_law
    cases e
    obtain ⟨fd, F⟩ := T.F_law
    have b := L2.FunD.bindsA (ps := ["_law_script"]) F fun _ _ _ _ _ _ us hl => match us, hl with | [_], _ => rfl
    refine ⟨K, fd, SK.spLaw K, KX, fun s v => b s [v] rfl, fun H a ns hl _ hS => ⟨.ref a, rfl, a, ns, rfl, hS, hl, fun _ => rfl⟩, fun base _ _ => ?_⟩
    exact SK.ok_law' T F
#print axioms PySem.Challenge.cw_steadylabels_k02_whole_the_first_wrong_l_holds
