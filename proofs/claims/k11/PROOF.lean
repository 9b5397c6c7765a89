import PyProof.Rows.All
import Wide.All
import OpenK.AllK
import Wide.FinOn
import HandS.ForMost
import HandS.ForExc
import HandS.HeadEnd
import HandS.Defaults
import HandS.ExcValue
import KE.KExcSuper
import KE.KExcIs
import HandS.ExcInit
import HandS.IsInst
import HandS.ExcSuper
import HandS.MakeKwOnly
import HandS.ExcField
import HandS.Wide
import HandS.SetFor
import HandS.Walk
import HandS.Zip
import HandS.ListEq
import KE.KDictPairs
import HandS.Head0
import HandS.Head1
import HandS.Head2
import HandS.HeadHook1
import HandS.HeadHook2
import HandS.HeadHook3
import HandS.Property
import HandS.More
import HandS.TupLe
import HandS.Deep
import HandS.NoneIn
import HandS.DictComp
import HandS.Star
import HandS.SlotsOwn
import HandS.WideBits
import HandS.TupSets
import HandS.SortOrd
import KE.GoesEnum
import HandS.Style
import HandS.Conv
import KE.KOpsOwn
import HandS.RaiseMore
import PyProof.StrLawsChain
import PyProof.EqAt
import HandS.TupAny
import PySem.Challenge.RW_steadylabels_k11_lines_that_tell_no_labe
set_option Elab.async false
set_option linter.all false
set_option maxRecDepth 100000
set_option maxHeartbeats 4000000
namespace SL
open PySem PySem.Spec PyProof.Rows L2
structure FnG (P : Program) (w : World) (K : PySem.W.Frag) (mg : Str → Option Value) (base : Heap) (CX : CXT)
    (k : Nat) (f : Addr) (fd : FuncData) (ps : List Str) (sp : Sp) : Prop where
  len : ∀ vs H Q E, sp vs H Q E → vs.length = ps.length
  run : ∀ (A : Around) (outer : List Env) (s : Shared) (H : Hp) (args : Args) (us : List Value) (vs : List V) (Q : VK) (E : XK),
    A.guards = some [] → Room k A → Env0 P w K mg base A outer s H → BindsTo s fd args (ps.zip us) → Vals vs us → sp vs H Q E →
    codeAny (model P w) A (.call (.ref f) args) (CR CX outer P w H s Q E) s
theorem FnG.of {P : Program} {w : World} {K : PySem.W.Frag} {mg : Str → Option Value} {base : Heap} {CX : CXT}
    {k : Nat} {f : Addr} {fd : FuncData} {ps : List Str} {sp : Sp} (F : FnOk P w K mg base CX k f fd ps sp) : FnG P w K mg base CX k f fd ps sp :=
  ⟨F.len, fun A outer s H args us vs Q E _ => F.run A outer s H args us vs Q E⟩
theorem fn_at {CX : CXT} {P : Program} {w : World} {K : PySem.W.Frag} {mg : Str → Option Value} {base : Heap} {k : Nat} {f : Addr}
    {name qual : Str} {params : Arguments} {body : List Stmt} {scope : Scope} {dV kV doc pm cdv ct oc : Value} {an od : Option Addr}
    {osl : Array (Option Value)} {N ps : List Str} {A : Around} {outer : List Env} {s : Shared} {H : Hp} {args : Args} {us : List Value} {vs : List V} {Q : VK} {E : XK}
    (lk : K.lookup f = some ⟨oc, od, .func (PySem.W.fnOf name qual params body scope dV kV doc pm an cdv ct), osl⟩)
    (hcd : PySem.W.codeIn K cdv qual = true) (S : FnScope N ps scope) (hl : vs.length = ps.length)
    (hr : Room (k + 1) A) (e0 : Env0 P w K mg base A outer s H)
    (hb : BindsTo s (PySem.W.fnOf name qual params body scope dV kV doc pm an cdv ct) args (ps.zip us)) (r : Vals vs us)
    (hbody : ∃ t, PSs (cxOf CX P w K mg base N qual scope f cdv A outer s H E) body t ∧
      t { nx := fun _ H' => Q .non H', rt := Q } (start N vs) H) :
    codeAny (model P w) A (.call (.ref f) args) (CR CX outer P w H s Q E) s := by
  have kin0 : K.In s.heap := e0.mod.kin.keeps fun b o e => (e0.bs b o e).1
  have nl0 : s.heap.NoLimit := e0.mod.nolimit.keeps fun b o e => (e0.bs b o e).1
  have hkind : ∀ y ∈ ps.zip us, scope.names.lookup y.1 = some .local ∨
      (scope.names.lookup y.1 = some .cell ∧ ((cellsFrom (s.heap.objs.size + 1) scope.names []).lookup y.1).isSome = true) := by
    rintro ⟨n, v⟩ hy
    rcases S.par n (List.of_mem_zip hy).1 with q | q
    · exact Or.inl q
    · exact Or.inr ⟨q, PySem.W.cellsFrom_some _ _ _ (Or.inl q)⟩
  refine codeAny_call_function hr.depth (kin0 _ _ lk) rfl S.co S.gen rfl (PySem.W.codeRec_of kin0 hcd) (hb _ _ _ _ ?_)
  refine wpAny_newFunctionEnv_cells S.kind hkind fun env' he' s1 x1 => ?_
  subst he'
  refine ⟨nl0.keeps x1.toInCall.keep, codeAny_func ?_⟩
  obtain ⟨t, ht, hq⟩ := hbody
  have I0 : Inv (cxOf CX P w K mg base N qual scope f cdv A outer s H E) [] (start N vs) H s1 := inv_start S hr.hd e0 hl r x1
  refine wpAny_mono (ht.run [] s1 (start N vs) H _ I0 hq) (fun fl s' hs => ?_) (fun e s' hs => hs)
  cases fl with
  | ret u =>
    obtain ⟨v, σ', H', J, rv, q⟩ := hs
    exact ⟨v, H', J.os, J.bare, J.base, J.hok, rv, q⟩
  | next =>
    obtain ⟨σ', H', J, q⟩ := hs
    exact ⟨V.non, H', J.os, J.bare, J.base, J.hok, (rfl : Value.none = Value.none), q⟩
  | brk => exact (hs.elim fun _ z => z.elim fun _ y => y.2.elim)
  | cont => exact (hs.elim fun _ z => z.elim fun _ y => y.2.elim)
theorem funD_okG {P : Program} {w : World} {K : PySem.W.Frag} {mg : Str → Option Value} {base : Heap} {x qual : Str} {params : Arguments}
    {body : List Stmt} {scope : Scope} {dvs : List V} {kws : List (Str × V)} {f : Addr} {fd : FuncData} {CX : CXT} {N ps : List Str} {k : Nat} {sp : Sp}
    (F : FunD K x qual params body scope dvs kws f fd) (S : FnScope N ps scope) (len : ∀ vs H Q E, sp vs H Q E → vs.length = ps.length)
    (hbody : ∀ (cdv : Value) (A : Around) (outer : List Env) (s : Shared) (H : Hp) (vs : List V) (Q : VK) (E : XK),
      (A.deeper (envOfC qual scope s.heap.objs.size f cdv)).guards = some [] → Room k (A.deeper (envOfC qual scope s.heap.objs.size f cdv)) → sp vs H Q E →
      ∃ t, PSs (cxOf CX P w K mg base N qual scope f cdv A outer s H E) body t ∧ t { nx := fun _ H' => Q .non H', rt := Q } (start N vs) H) :
    FnG P w K mg base CX (k + 1) f fd ps sp := by
  obtain ⟨oc, od, dV, kV, doc, pm, an, cdv, ct, osl, rfl, lk, hcd, _, _⟩ := F.ex
  refine ⟨len, fun A outer s H args us vs Q E hg hr e0 hb r hsp => ?_⟩
  exact fn_at lk hcd S (len _ _ _ _ hsp) hr e0 hb r (hbody cdv A outer s H vs Q E hg (hr.deeper _) hsp)
section
variable {X : Cx} {CX : CXT} {k : Nat} {f : Addr} {fd : FuncData} {ps : List Str} {sp : Sp} {dvs : List V} {ds : List Value} {E : XK} {x : Str} {p pos : Pos} {e : Expr} {es : List Expr} {t : TA}
theorem run_fnG {pins : List (Addr × Obj)} {σ : L2.St} {H : Hp} {s : Shared} {Q : VK} {us : List Value} {vs : List V}
    (F : FnG X.prog X.w X.K X.mg X.base CX k f fd ps sp) (hg : X.A.guards = some []) (hr : Room k X.A) (hb : Binds X.K fd ps ds) (hd : Vals dvs ds) (hx : Passes CX X E)
    (I : Inv X pins σ H s) (r : Vals vs us) (h : sp (vs ++ dvs) H Q E) : wpAny (model X.prog X.w) X.A (call (.ref f) us) (EP X pins σ Q) X.xe s := by
  have rr : Vals (vs ++ dvs) (us ++ ds) := Vals.append r hd
  have hl : (us ++ ds).length = ps.length := rr.length.symm.trans (F.len _ _ _ _ h)
  have go := F.run X.A X.stack s H ⟨us, []⟩ (us ++ ds) (vs ++ dvs) Q E hg hr I.env0 (hb s us I.kIn hl) rr h
  refine wpAny_call (codeAny_mono go fun res s' hq => ?_)
  cases res with
  | error e => exact hx pins σ H s e s' I hq
  | ok fl => cases fl with
    | ret u => exact I.after hq
    | next => exact hq.elim
    | brk => exact hq.elim
    | cont => exact hq.elim
theorem pe_callG (F : FnG X.prog X.w X.K X.mg X.base CX k f fd ps sp) (hgd : X.A.guards = some []) (hr : Room k X.A) (hg : Gl X x) (hm : X.mg x = some (.ref f))
    (hk : PySem.W.keepIn X.K (.ref f) = true) (hb : Binds X.K fd ps ds) (hd : Vals dvs ds) (hx : Passes CX X E) (ha : PA X (e :: es) t)
    (hdb : (x == ("__debug__" : Str)) = false := by decide) (he : starEach (e :: es) X.env = (false, eval e X.env) :: starEach es X.env := by rfl)
    (hpl : (backTo pos (starEach es X.env)).any (·.1) = false := by rfl) : PE X (.Call (.Name x p) (e :: es) [] pos) (tCall sp dvs E t) := by
  constructor
  intro pins s σ H Q I h
  refine wpAny_Call_Name_kw (ld_glob I hg hm ?_ hdb)
  refine PySem.W.callWith_K (h₀ := X.base) I.ok.mod.kin hk ?_ he hpl
  exact thn (ha.run pos pins s σ H _ I h) fun us s1 ⟨vs, H1, I1, r, q⟩ => ⟨I1.kIn, run_fnG F hgd hr hb hd hx I1 r q⟩
end
def LawEnd (s₁ : Shared) (r : Result) (s' : Shared) : Prop :=
  r = .ok (.ret (.bool true)) ∧ OldK s₁.heap s'.heap ∧ s'.os = s₁.os ∧ AllBare s'.gens
section
variable {P : Program} {w : World} {K : PySem.W.Frag} {mg mb : Str → Option Value} {CX : CXT} {k : Nat} {fa a : Addr}
  {fd : FuncData} {x : Str} {sp : Sp} {s₁ : Shared} {vs : List Value} {ns : List Int}
theorem law_core (KX : K.In s₁.heap) (hns : s₁.heap.Ns mainGlobals mg) (hb : s₁.heap.Ns builtinsNs mb)
    (hbb : ∀ x : Str, x ≠ "__name__" → mb x = bootBuiltins x) (hlim : s₁.heap.NoLimit) (hg : s₁.gens = #[])
    (ha : s₁.heap.get? a = some { cls := .type "list", data := .seq vs.toArray }) (hr : Room k callerA)
    (F : ∀ base : Heap, K.In base → base.Ns mainGlobals mg → FnG P w K mg base CX k fa fd [x] sp)
    (hbind : ∀ (s : Shared) (u : Value), BindsTo s fd ⟨[u], []⟩ [(x, u)])
    (hCX : ∀ H e s', CX [] H s₁ (fun _ _ _ => False) e s' → False)
    {H : Hp} (hO : Only H) (hok : HOk P w H s₁.heap) (hA : ∀ b, H b ≠ none → b = a) (hK : H a ≠ none → K.lookup a = none)
    (hsp : sp [.ref a] H (fun v _ => v = .bl true) fun _ _ _ => False) :
    codeAny (model P w) callerA (.call (.ref fa) ⟨[.ref a], []⟩) (LawEnd s₁) s₁ := by
  have free_of : ∀ {b : Addr}, b ≠ a → H b = none := fun {b} hne => by
    cases q : H b with
    | none => rfl
    | some u => exact absurd (hA b (by rw [q]; simp)) hne
  have lift : ∀ {b : Addr} {m : Str → Option Value}, s₁.heap.Ns b m → (hidT s₁.heap H).Ns b m := by
    rintro b m ⟨o, es, ep, e, d, r⟩
    refine ⟨o, es, ep, hidT_get e (free_of fun z => ?_), d, r⟩
    rw [z, ha] at e
    cases e
    have d' : Data.seq vs.toArray _ = Data.dict es ep := d
    cases d'
  have kb : K.In (hidT s₁.heap H) := by
    intro b o e
    refine hidT_get (KX b o e) ?_
    cases q : H b with
    | none => rfl
    | some u =>
      have eb : b = a := hA b (by rw [q]; simp)
      subst eb
      rw [hK (by rw [q]; simp)] at e
      cases e
  have md : Mod K mg (hidT s₁.heap H) := by
    obtain ⟨mc, c1, c2⟩ := hlim
    exact ⟨kb, lift hns, ⟨mb, lift hb, hbb⟩, ⟨mc, lift c1, c2⟩⟩
  have en : Env0 P w K mg (hidT s₁.heap H) callerA [] s₁ H := by
    refine ⟨rfl, md, fun b o e => of_hidT e, Nat.le_of_eq (hidT_size _ _), trivial, ?_, hok, .of_eq hg⟩
    intro b hb'
    exact absurd (show b ∈ ([] : List Addr) from hb') (by simp)
  have go := (F _ kb (lift hns)).run callerA [] s₁ H ⟨[.ref a], []⟩ [.ref a] [.ref a] _ _ rfl hr en (hbind s₁ (.ref a)) (.cons rfl .nil) hsp
  refine codeAny_mono go fun r s' h => ?_
  cases r with
  | error e => exact (hCX H e s' h).elim
  | ok fl => cases fl with
    | next => exact h.elim
    | brk => exact h.elim
    | cont => exact h.elim
    | ret u =>
      obtain ⟨v, H', os, bare, un, hok', r', q⟩ := h
      have q' : v = .bl true := q
      subst q'
      have eu : u = Value.bool true := r'
      subst eu
      refine ⟨rfl, OldK.of_keep ?_, os, bare⟩
      intro b o e
      rcases hO b with z | ⟨ob, xs, z⟩
      · exact un.keep b o e z (fun y => absurd (show b ∈ ([] : List Addr) from y) (by simp)) (by simp)
      · have e1 := (hok b _ z).1
        have e2 := (hok' b _ (un.frzs b ob _ z)).1
        rw [e] at e1
        cases e1
        exact e2
theorem law_callG (KX : K.In s₁.heap) (hns : s₁.heap.Ns mainGlobals mg) (hb : s₁.heap.Ns builtinsNs mb)
    (hbb : ∀ x : Str, x ≠ "__name__" → mb x = bootBuiltins x) (hlim : s₁.heap.NoLimit) (hg : s₁.gens = #[])
    (ha : s₁.heap.get? a = some { cls := .type "list", data := .seq vs.toArray }) (hi : IntsAre vs ns) (hl : ns.length ≤ sizeLine) (hr : Room k callerA)
    (F : ∀ base : Heap, K.In base → base.Ns mainGlobals mg → FnG P w K mg base CX k fa fd [x] sp)
    (hbind : ∀ (s : Shared) (u : Value), BindsTo s fd ⟨[u], []⟩ [(x, u)])
    (hsp : ∀ H : Hp, Only H → SqL K H a (ns.map V.int) → sp [.ref a] H (fun v _ => v = .bl true) fun _ _ _ => False)
    (hCX : ∀ H e s', CX [] H s₁ (fun _ _ _ => False) e s' → False) :
    codeAny (model P w) callerA (.call (.ref fa) ⟨[.ref a], []⟩) (LawEnd s₁) s₁ := by
  have rv := vals_ints hi
  have hlen := hi.length
  cases hk : K.lookup a with
  | some o =>
    have e := KX a o hk
    rw [ha] at e
    cases e
    have sq : SqL K (fun _ => none) a (ns.map V.int) :=
      .inr ⟨_, vs.toArray, _, hk, rfl, rfl, rfl, by rw [List.size_toArray, hlen]; exact hl, by simpa using rv⟩
    have on : Only (fun _ => none) := fun _ => .inl rfl
    refine law_core KX hns hb hbb hlim hg ha hr F hbind hCX on ?_ (fun b z => absurd rfl z) (fun z => absurd rfl z) (hsp _ on sq)
    intro b u z
    cases (show (none : Option HO) = some u from z)
  | none =>
    let T : HO := .frz { cls := .type "list", data := .seq vs.toArray } (.lst (ns.map V.int))
    have hT : ∀ b, upd (fun _ => none) a T b = some T ∨ upd (fun _ => none) a T b = none := fun b => by
      by_cases hb' : b = a
      · left; rw [hb', upd_same]
      · right; rw [upd_ne hb']
    have on : Only (upd (fun _ => none) a T) := fun b => by
      rcases hT b with z | z
      · exact .inr ⟨_, _, z⟩
      · exact .inl z
    have hA : ∀ b, upd (fun _ => none) a T b ≠ none → b = a := fun b z => by
      by_cases hb' : b = a
      · exact hb'
      · exact absurd (upd_ne hb') z
    refine law_core KX hns hb hbb hlim hg ha hr F hbind hCX on ?_ hA (fun _ => hk) (hsp _ on (.inl (.inr ⟨_, upd_same⟩)))
    intro b u z
    have eb : b = a := hA b (by rw [z]; simp)
    subst eb
    rw [upd_same] at z
    cases z
    exact ⟨ha, by rw [List.length_map]; exact hl, vs, _, rv, ha⟩
end
theorem walk_ofG {l : PySem.W.OpenLaw} {n k : Nat} {q : Program} {loose : List Str} {XP : (Str → Option Value) → Heap → Prop} {YP : World → Heap → Prop} {d : DefRec} {CX : World → CXT} {x : Str}
    (hn : l.most = some n) (hn2 : n ≤ sizeLine) (hdf : d.params.defaults = []) (hr : Room k callerA)
    (F : ∀ (w : World) (mg : Str → Option Value) (fa : Addr) (h : Heap), YP w h → h.Ns mainGlobals mg → mg d.name = some (.ref fa) →
      ∃ (K : PySem.W.Frag) (fd : FuncData) (sp : Sp), K.In h ∧ (∀ (s : Shared) (u : Value), BindsTo s fd ⟨[u], []⟩ [(x, u)]) ∧
        (∀ (H : Hp) (a : Addr) (ns : List Int), ns.length ≤ n → Only H → SqL K H a (ns.map V.int) → sp [.ref a] H (fun v _ => v = .bl true) fun _ _ _ => False) ∧
        ∀ base : Heap, K.In base → base.Ns mainGlobals mg → FnG l.prog w K mg base (CX w) k fa fd [x] sp)
    (hCX : ∀ (w : World) (H : Hp) (s : Shared) (e : Value) (s' : Shared), CX w [] H s (fun _ _ _ => False) e s' → False) :
    PySem.W.WalkO q loose XP YP l.row.toRowW d [] (fun f vs => PySem.call f vs) := by
  refine Att.attach_call hn hdf ?_
  intro w s₀ s₁ mg mb fa o pm cd doc a vs ns G Y ho hd hcd hmg hobj hints hlen hg
  obtain ⟨K, fd, sp, KX, hb, hsp, hF⟩ := F w mg fa _ Y G.T.g hmg
  have hl : ns.length ≤ sizeLine := Nat.le_trans hlen hn2
  exact law_callG KX G.T.g G.T.b G.T.builtins G.T.nolimit hg hobj hints hl hr hF hb (fun H hO hS => hsp H a ns hlen hO hS) (fun H e s' => hCX w H s₁ e s')
end SL
set_option maxHeartbeats 4000000
namespace SL
open PySem PySem.Spec PyProof.Rows L2
def kD : Key → PyData
  | .inl i => .int i
  | .inr x => .str x
mutual
inductive Rv (H : Hp) : V → PyData → Prop
  | non : Rv H .non .none
  | bl (b : Bool) : Rv H (.bl b) (.bool b)
  | int (i : Int) : Rv H (.int i) (.int i)
  | str (x : Str) : Rv H (.str x) (.str x)
  | lst {a : Addr} {xs : List V} {ds : List PyData} : H a = some (.lst xs) → RvL H xs ds → Rv H (.ref a) (.list ds)
  | tup {a : Addr} {xs : List V} {ds : List PyData} : H a = some (.tup xs) → RvL H xs ds → Rv H (.ref a) (.tuple ds)
  | dK {a : Addr} {kvs : List (Key × V)} {ps : List (PyData × PyData)} : H a = some (.dK kvs) → ps.map (·.1) = kvs.map (fun q => kD q.1) →
      RvL H (kvs.map (·.2)) (ps.map (·.2)) → Rv H (.ref a) (.dict ps)
inductive RvL (H : Hp) : List V → List PyData → Prop
  | nil : RvL H [] []
  | cons {v : V} {vs : List V} {d : PyData} {ds : List PyData} : Rv H v d → RvL H vs ds → RvL H (v :: vs) (d :: ds)
end
mutual
theorem Rv.same {H H' : Hp} (e : Same H H') : ∀ {v : V} {d : PyData}, Rv H v d → Rv H' v d
  | _, _, .non => .non
  | _, _, .bl b => .bl b
  | _, _, .int i => .int i
  | _, _, .str x => .str x
  | _, _, .lst h r => .lst (e _ _ h) (RvL.same e r)
  | _, _, .tup h r => .tup (e _ _ h) (RvL.same e r)
  | _, _, .dK h k r => .dK (e _ _ h) k (RvL.same e r)
theorem RvL.same {H H' : Hp} (e : Same H H') : ∀ {vs : List V} {ds : List PyData}, RvL H vs ds → RvL H' vs ds
  | _, _, .nil => .nil
  | _, _, .cons h r => .cons (Rv.same e h) (RvL.same e r)
end
theorem RvL.snoc {H : Hp} {v : V} {d : PyData} (h : Rv H v d) : ∀ {vs : List V} {ds : List PyData}, RvL H vs ds → RvL H (vs ++ [v]) (ds ++ [d])
  | _, _, .nil => .cons h .nil
  | _, _, .cons g r => .cons g (RvL.snoc h r)
theorem RvL.length {H : Hp} : ∀ {vs : List V} {ds : List PyData}, RvL H vs ds → vs.length = ds.length
  | _, _, .nil => rfl
  | _, _, .cons _ r => by rw [List.length_cons, List.length_cons, RvL.length r]
theorem RvL.ints (H : Hp) : ∀ ns : List Int, RvL H (ns.map V.int) (ns.map PyData.int)
  | [] => .nil
  | n :: ns => .cons (.int n) (RvL.ints H ns)
structure Sh (d : PyData) (n m : Nat) : Prop where
  sh : d.showable = true
  lf : d.leavesShort 40 = true
  dp : d.depth ≤ m
  wt : d.weight ≤ n
theorem Sh.mono {d : PyData} {n m n' m' : Nat} (h : Sh d n m) (hn : n ≤ n') (hm : m ≤ m') : Sh d n' m' := ⟨h.sh, h.lf, Nat.le_trans h.dp hm, Nat.le_trans h.wt hn⟩
theorem Sh.len {d : PyData} {n m : Nat} (h : Sh d n m) (hn : n ≤ 390000) : d.shown.length ≤ sizeLine := by
  have := PyData.shown_le 40 (by decide) d h.lf
  have e := h.wt
  rw [sizeLine_eq]
  omega
structure ShL (ds : List PyData) (n m : Nat) : Prop where
  sh : PyData.showableAll ds = true
  lf : PyData.leavesShortAll 40 ds = true
  dp : PyData.depthAll ds ≤ m
  wt : PyData.weightAll ds ≤ n
theorem ShL.nil {n m : Nat} : ShL [] n m := ⟨by simp only [PyData.showableAll], by simp only [PyData.leavesShortAll], by simp only [PyData.depthAll]; omega, by simp only [PyData.weightAll]; omega⟩
theorem ShL.cons {d : PyData} {ds : List PyData} {n k m : Nat} (h : Sh d n m) (r : ShL ds k m) : ShL (d :: ds) (n + 1 + k) m := by
  obtain ⟨a1, a2, a3, a4⟩ := h
  obtain ⟨b1, b2, b3, b4⟩ := r
  refine ⟨?_, ?_, ?_, ?_⟩
  · simp only [PyData.showableAll, a1, b1, Bool.and_self]
  · simp only [PyData.leavesShortAll, a2, b2, Bool.and_self]
  · simp only [PyData.depthAll]
    exact Nat.max_le.mpr ⟨a3, b3⟩
  · simp only [PyData.weightAll]
    omega
theorem ShL.mono {d : List PyData} {n m n' m' : Nat} (h : ShL d n m) (hn : n ≤ n') (hm : m ≤ m') : ShL d n' m' := ⟨h.sh, h.lf, Nat.le_trans h.dp hm, Nat.le_trans h.wt hn⟩
theorem ShL.of {n m : Nat} : ∀ {ds : List PyData}, (∀ d ∈ ds, Sh d n m) → ShL ds (ds.length * (n + 1)) m
  | [], _ => .nil
  | d :: ds, h => by
    have := ShL.cons (h d List.mem_cons_self) (ShL.of (ds := ds) fun x hx => h x (List.mem_cons_of_mem _ hx))
    refine this.mono ?_ (Nat.le_refl _)
    rw [List.length_cons, Nat.add_mul]
    omega
theorem Sh.list {ds : List PyData} {n m : Nat} (h : ShL ds n m) : Sh (.list ds) n (m + 1) :=
  ⟨by simp only [PyData.showable]; exact h.sh, by simp only [PyData.leavesShort]; exact h.lf, by simp only [PyData.depth]; have := h.dp; omega, by simp only [PyData.weight]; exact h.wt⟩
theorem Sh.tuple {ds : List PyData} {n m : Nat} (h : ShL ds n m) : Sh (.tuple ds) n (m + 1) :=
  ⟨by simp only [PyData.showable]; exact h.sh, by simp only [PyData.leavesShort]; exact h.lf, by simp only [PyData.depth]; have := h.dp; omega, by simp only [PyData.weight]; exact h.wt⟩
theorem Sh.none {n m : Nat} : Sh .none n m := ⟨by simp only [PyData.showable], by simp only [PyData.leavesShort], by simp only [PyData.depth]; omega, by simp only [PyData.weight]; omega⟩
theorem Sh.bool {b : Bool} {n m : Nat} : Sh (.bool b) n m := ⟨by simp only [PyData.showable], by simp only [PyData.leavesShort], by simp only [PyData.depth]; omega, by simp only [PyData.weight]; omega⟩
theorem log2_small {a k : Nat} (hk : 0 < k) (h : a < 2 ^ k) : a.log2 < k := by
  by_cases e : a = 0
  · subst e
    have : Nat.log2 0 = 0 := by decide
    omega
  · exact (Nat.log2_lt e).mpr h
theorem Sh.int {i : Int} {m : Nat} (h : i.natAbs < 10 ^ 30) : Sh (.int i) 200 m := by
  have hl : i.natAbs.log2 < 101 := log2_small (by decide) (Nat.lt_of_lt_of_le h (by decide))
  refine ⟨?_, ?_, by simp only [PyData.depth]; omega, ?_⟩
  · simp only [PyData.showable, decide_eq_true_eq]
    omega
  · have e := int_text_length_le10 (a := i) (k := 30) (by decide) h
    have e2 : (Str.ofString (toString i)).length ≤ 40 := by
      rw [PySem.ofString_length]
      omega
    simp only [PyData.leavesShort, PyData.shown]
    exact decide_eq_true e2
  · simp only [PyData.weight]
    split <;> omega
theorem Sh.str {x : Str} {n m : Nat} (h : ∀ c ∈ x.cps.toList, c < 16 ^ 8) (hl : x.length ≤ n) : Sh (.str x) n m := by
  refine ⟨by simp only [PyData.showable], ?_, by simp only [PyData.depth]; omega, by simp only [PyData.weight]; exact hl⟩
  simp only [PyData.leavesShort, List.all_eq_true, decide_eq_true_eq]
  exact h
section
variable {X : Cx} {pins : List (Addr × Obj)} {σ : L2.St} {H : Hp} {s : Shared}
theorem not_sys (I : Inv X pins σ H s) (hs : (X.K.lookup sysModules).isSome = true) {a : Addr} {o : HO} (h : H a = some o) : a ≠ sysModules := by
  intro e
  obtain ⟨ob, hk⟩ := Option.isSome_iff_exists.mp hs
  have z := (I.bs sysModules ob (I.mod.kin _ _ hk)).2
  rw [← e, h] at z
  cases z
theorem pairs_keys {P : Program} {w : World} {h : Heap} : ∀ {es : List DictEntry} {vs : List (Key × Value)}, Pairs (mixKind P w) es vs → ReadsAll h (es.map (·.key)) (vs.map fun q => kD q.1) []
  | _, _, .nil => .nil
  | _, _, .cons (e := e) (kv := kv) hk _ r => by
    have rr := pairs_keys (h := h) r
    rcases keyIs_shape (show keyIs kv.1 e.key = true from hk) with ⟨i, t, e1, e2⟩ | ⟨x, t, e1, e2⟩
    · simp only [List.map_cons, e1, e2, kD]
      exact .cons (as := []) (bs := []) (.int i t) rr
    · simp only [List.map_cons, e1, e2, kD]
      exact .cons (as := []) (bs := []) (.str x t) rr
theorem pairs_vals {P : Program} {w : World} : ∀ {es : List DictEntry} {vs : List (Key × Value)}, Pairs (mixKind P w) es vs → es.map (·.val) = vs.map (·.2)
  | _, _, .nil => rfl
  | _, _, .cons _ hv r => by
    rw [List.map_cons, List.map_cons, hv, pairs_vals r]
theorem kv_keys : ∀ {kvs : List (Key × V)} {vs : List (Key × Value)}, KV kvs vs → kvs.map (fun q => kD q.1) = vs.map fun q => kD q.1
  | _, _, .nil => rfl
  | _, _, .cons h r => by rw [List.map_cons, List.map_cons, h.1, kv_keys r]
theorem kv_vals : ∀ {kvs : List (Key × V)} {vs : List (Key × Value)}, KV kvs vs → Vals (kvs.map (·.2)) (vs.map (·.2))
  | _, _, .nil => .nil
  | _, _, .cons h r => .cons h.2 (kv_vals r)
mutual
theorem Rv.reads (I : Inv X pins σ H s) (hs : (X.K.lookup sysModules).isSome = true) : ∀ {v : V} {d : PyData} {u : Value}, Rv H v d → RelV v u → ∃ as, Reads s.heap u d as ∧ sysModules ∉ as
  | _, _, _, .non, r => by cases r; exact ⟨[], .none, by simp⟩
  | _, _, _, .bl b, r => by cases r; exact ⟨[], .bool b, by simp⟩
  | _, _, _, .int i, r => by obtain ⟨t, rfl⟩ := r; exact ⟨[], .int i t, by simp⟩
  | _, _, _, .str x, r => by obtain ⟨t, rfl⟩ := r; exact ⟨[], .str x t, by simp⟩
  | _, _, _, .lst (a := a) h q, r => by
    cases r
    obtain ⟨_, its, n, rv, e⟩ := I.hok a _ h
    obtain ⟨as, ra, hn⟩ := RvL.reads I hs q rv
    refine ⟨a :: as, .list e rfl rfl (by simpa using ra), fun hm => ?_⟩
    rcases List.mem_cons.mp hm with z | z
    · exact not_sys I hs h z.symm
    · exact hn z
  | _, _, _, .tup (a := a) h q, r => by
    cases r
    obtain ⟨_, its, rv, o, e, hc, n, hd⟩ := I.hok a _ h
    obtain ⟨as, ra, hn⟩ := RvL.reads I hs q rv
    exact ⟨as, .tuple e hc hd (by simpa using ra), hn⟩
  | _, _, _, .dK (a := a) (kvs := kvs) (ps := ps) h k q, r => by
    cases r
    obtain ⟨_, _, vs, kv, o, es, ep, e, hx, hd, _, pr, _⟩ := I.hok a _ h
    obtain ⟨as, ra, hn⟩ := RvL.reads I hs q (kv_vals kv)
    have rk : ReadsAll s.heap (es.toList.map (·.key)) (ps.map (·.1)) [] := by
      rw [k, kv_keys kv]
      exact pairs_keys pr
    have rv : ReadsAll s.heap (es.toList.map (·.val)) (ps.map (·.2)) as := by
      rw [pairs_vals pr]
      exact ra
    refine ⟨a :: [] ++ as, .dict e hx.1 hd rk rv, fun hm => ?_⟩
    rcases List.mem_cons.mp hm with z | z
    · exact not_sys I hs h z.symm
    · exact hn z
theorem RvL.reads (I : Inv X pins σ H s) (hs : (X.K.lookup sysModules).isSome = true) : ∀ {vs : List V} {ds : List PyData} {us : List Value}, RvL H vs ds → Vals vs us → ∃ as, ReadsAll s.heap us ds as ∧ sysModules ∉ as
  | _, _, _, .nil, r => by cases r; exact ⟨[], .nil, by simp⟩
  | _, _, _, .cons h q, r => by
    cases r with
    | cons r1 r2 =>
      obtain ⟨as, ra, ha⟩ := Rv.reads I hs h r1
      obtain ⟨bs, rb, hb⟩ := RvL.reads I hs q r2
      exact ⟨as ++ bs, .cons ra rb, fun hm => (List.mem_append.mp hm).elim ha hb⟩
end
end
end SL
set_option maxHeartbeats 4000000
namespace SL
open PySem PySem.Spec PyProof.Rows L2
def erB (p0 p1 p2 p3 p4 p5 p6 p7 p8 p9 : Pos) : List Stmt := [
  .Expr (.Call (.Attribute (.Call (.Name "super" p0) [] [] p1) "__init__" p2) [.Name "value" p3] [] p4) p5,
  .Assign [.Attribute (.Name "self" p6) "value" p7] (.Name "value" p8) p9]
def erA (q1 q2 : Pos) : Arguments := { posonlyargs := [], args := [{ arg := "self", annotation := none, pos := q1 }, { arg := "value", annotation := none, pos := q2 }], vararg := none, kwonlyargs := [], kw_defaults := [], kwarg := none, defaults := [] }
def erS : Scope := { kind := .function, names := [("self", .local), ("value", .local), ("__class__", .free), ("super", .globalImplicit)], isGenerator := false, isCoroutine := false, more := [] }
structure IniT (P : Program) (K : PySem.W.Frag) (D fI : Addr) (fd : FuncData) : Prop where
  fn : ∃ (oc : Value) (od : Option Addr) (dV kV doc pm : Value) (an : Option Addr) (cda : Addr) (ct : Value) (osl : Array (Option Value)) (cc : Addr) (q1 q2 p0 p1 p2 p3 p4 p5 p6 p7 p8 p9 : Pos),
    fd = PySem.W.ksFn "__init__" "LabelError.__init__" (erA q1 q2) (erB p0 p1 p2 p3 p4 p5 p6 p7 p8 p9) erS dV kV doc pm an (.ref cda) ct cc ∧
    (p2.endLine == p4.line) = true ∧ K.lookup fI = some ⟨oc, od, .func fd, osl⟩ ∧ PySem.W.codeIn K (.ref cda) "LabelError.__init__" = true ∧
    (∃ ccl cdd vs ccs file tf, K.lookup cda = some ⟨ccl, cdd, .fields vs, ccs⟩ ∧ vs[2]? = some (.str file tf) ∧ ((P.main.file : Str) == file) = true) ∧
    (∃ cl cld csl, K.lookup cc = some ⟨cl, cld, .cell (some (.ref D)), csl⟩)
  clD : (PySem.W.clsIn K D).isSome = true
  noS : (P.main.scope.names.lookup ("super" : Str)).isSome = false
  tp : PySem.W.nsIn K cStatics "thirdparty.any" = some none
structure ErrC (K : PySem.W.Frag) (D fI C : Addr) : Prop where
  cls : ∃ nm q N bs bm sn sub ab col dd k0 k1 k2 k3 k5, K.lookup C = some (excClassObj nm q C N bs bm true sn sub ab col dd k0 k1 k2 k3 k5 "ValueError.__new__") ∧ PySem.HandSPX.refsVE bm = true
  sa : PySem.W.findIn K (.ref C) "__setattr__" = some (some (.builtin "object.__setattr__"))
  ga : PySem.W.findIn K (.ref C) "__getattribute__" = some (some (.builtin "BaseException.__getattribute__"))
  gg : PySem.W.findIn K (.ref C) "__getattr__" = some none
  noV : PySem.W.findIn K (.ref C) "value" = some none
  iC : PySem.W.findIn K (.ref C) "__init__" = some (some (.ref fI))
  tI : PySem.W.typeIn K (.ref fI) = some (.type "function")
  kC : PySem.W.keepIn K (.ref C) = true
  exC : PySem.W.subIn K (.ref C) (.type "BaseException") = some true
  vaC : PySem.W.subIn K (.ref C) (.type "ValueError") = some true
  tyC : PySem.W.typeIn K (.ref C) = some (.type "type")
  hdC : PySem.W.hasDictIn K C = true
  mD : PySem.W.mroIn K C (.ref D) = some true
  sup : PySem.W.ks_superIn K C D "__init__" = some (some (.builtin "ValueError.__init__"))
  cl : PySem.W.findIn K (.ref C) "__class__" = some (some (.builtin "object.__class__"))
  sp : PySem.W.specialIn K (.builtin "object.__class__") "__get__" = some (some (.builtin "getset_descriptor.__get__"))
  tk : PySem.W.takesIn K (.builtin "object.__class__") = some true
  ob : PySem.W.mroIn K C (.type "object") = some true
structure ErEnd (h h' : Heap) (x C dx t1 : Addr) (v : Value) : Prop where
  keep : ∀ b o, b ≠ x → h.get? b = some o → h'.get? b = some o
  obj : h'.get? x = some { cls := .ref C, dict := some dx, data := .fields #[.ref t1, .none, .none, .none, .bool false, .none] }
  dbig : h.objs.size ≤ dx
  dne : dx ≠ x
  ns : h'.Ns1 dx (fun y => if y = "value" then some v else none)
section
open PySem.W PySem.Calls PySem.HandSPX
variable {prog : Program} {w : World} {A : Around} {E : Value → Shared → Prop} {R : Result → Shared → Prop} {s : Shared} {K : Frag} {mg mb : Str → Option Value} {C D fI : Addr} {fd : FuncData}
theorem er_nocell : ∀ x ∈ erS.names, x.2 ≠ NameKind.cell := by decide
theorem er_lo : erS.names.lookup ("self" : Str) = some NameKind.local ∧ erS.names.lookup ("value" : Str) = some NameKind.local := by decide
abbrev er_pl (p0 p1 : Pos) (env : Env) : Sem Bool := do return (← importBound (.Call (.Name "super" p0) [] [] p1) env).getD true
theorem er_eval {p0 p1 p2 p3 p4 : Pos} (env : Env) (h : (p2.endLine == p4.line) = true) :
    eval (.Call (.Attribute (.Call (.Name "super" p0) [] [] p1) "__init__" p2) [.Name "value" p3] [] p4) env = (do
      let ov ← attributeBase (.Call (.Name "super" p0) [] [] p1) "__init__" env (eval (.Call (.Name "super" p0) [] [] p1) env)
      standAt p2.atName
      let (f, first) ← holding [ov] (getMethod ov "__init__" (er_pl p0 p1 env))
      callWith p4 f first (backTo p4 (starEach [.Name "value" p3] env)) []) := by
  show (do
      let ov ← attributeBase (.Call (.Name "super" p0) [] [] p1) "__init__" env (eval (.Call (.Name "super" p0) [] [] p1) env)
      standAt p2.atName
      let (f, first) ← holding [ov] (getMethod ov "__init__" (er_pl p0 p1 env))
      let cp ← methodCallPos true (.Call (.Name "super" p0) [] [] p1) env p2 p4
      callWith cp f first (backTo p4 (starEach [.Name "value" p3] env)) []) = _
  have e : methodCallPos true (.Call (.Name "super" p0) [] [] p1) env p2 p4 = pure p4 := by
    unfold methodCallPos
    rw [h]
    rfl
  rw [e]
  rfl
theorem boot_super : bootBuiltins "super" = some (.type "super") := by decide +kernel
theorem er_base (T : ErrC K D fI C) {h : Heap} {g : Array GenState} {d : Drawn} {t : Nat} {os : OsState} {u x t0 : Addr} {v : Value} {Q : Value → Shared → Prop}
    (X : K.In h) (hx : h.get? x = some (excO C t0)) (hu : h.get? u = some (kxs_mw "ValueError.__init__" x))
    (hq : ∀ h' t1, (∀ b o, b ≠ x → h.get? b = some o → h'.get? b = some o) → h'.get? x = some (excO C t1) → Q .none ⟨h', g, d, t, os⟩) :
    wpAny (model prog w) A (call (.ref u) [v]) Q E ⟨h, g, d, t, os⟩ := by
  obtain ⟨nm, q, N, bs, bm, sn, sub, ab, col, dd, k0, k1, k2, k3, k5, hC, hbm⟩ := T.cls
  refine wpAny_call (codeAny_of_tree ?_)
  show wpAny _ A.in1 (callAny (.ref u) ⟨[v], []⟩) _ _ _
  simp only [callAny]
  refine wpAny_bind (wpAny_load hu ?_)
  have e1 : (Value.type "method-wrapper" == Value.type "method" || Value.type "method-wrapper" == Value.type "builtin_function_or_method" || Value.type "method-wrapper" == Value.type "method-wrapper") = true := by decide
  simp only [kxs_mw, e1, if_true]
  refine KFB.if_so (by decide) ?_
  refine wpAny_bind (check_bound_init F.excBase_ValueError.toExcCallFacts (X _ _ hC) hx rfl ?_)
  refine wpAny_bind (wpAny_pure (wpAny_pure ?_))
  refine ⟨plainId_quiet F.excBase_ValueError.init.plain _, codeAny_builtin F.excBase_ValueError.initEntry ?_⟩
  refine exc_init_tree (cls := .ref C) (t0 := t0) (dv := none) (c2 := .none) (c3 := .none) (b4 := .bool false) hx (by rw [sizeLine_eq]; exact (by decide : 1 ≤ 16777216)) fun h' k e' _ => ?_
  exact hq h' _ k e'
theorem er_init (I0 : IniT prog K D fI fd) (T : ErrC K D fI C) {x t0 : Addr} {v : Value} {args : Args} (X : K.In s.heap)
    (hn : s.heap.Ns mainGlobals mg) (hb : s.heap.Ns builtinsNs mb) (hsu : mg "super" = none) (hbs : mb "super" = some (.type "super"))
    (hlim : s.heap.NoLimit) (hx : s.heap.get? x = some (excO C t0)) (hnx : K.lookup x = none) (hroom : A.depth < recursionLimit)
    (hbind : BindsTo s fd args [("self", .ref x), ("value", v)])
    (hq : ∀ h' tk dx t1, ErEnd s.heap h' x C dx t1 v → R (.ok (.ret .none)) { s with heap := h', toks := tk }) :
    codeAny (model prog w) A (.call (.ref fI) args) R s := by
  obtain ⟨oc, od, dV, kV, doc, pm, an, cda, ct, osl, cc, q1, q2, p0, p1, p2, p3, p4, p5, p6, p7, p8, p9, efd, hpos, lk, hcd, ⟨ccl, cdd, vs, ccs, file, tf, lc, hvs, hfile⟩, ⟨cl, cld, csl, lcell⟩⟩ := I0.fn
  obtain ⟨nm, q, N, bs, bm, sn, sub, ab, col, dd, k0, k1, k2, k3, k5, hC, hbm⟩ := T.cls
  have hcl : clsIn K C = some { name := nm, bases := bs, mro := .ref C :: bm, ns := N, qualname := q, hasDict := true, slotNames := sn, subclasses := sub, abstract := ab, collection := col, hasDel := false } := by
    unfold clsIn
    rw [hC] <;> rfl
  have hsup := T.sup
  subst efd
  refine ks_codeAny_call_defAt (body := erB p0 p1 p2 p3 p4 p5 p6 p7 p8 p9) hroom (X _ _ lk) rfl hlim (codeRec_of X hcd) rfl hbind er_nocell (by intro y hy; simp only [List.mem_cons, List.not_mem_nil, or_false] at hy; rcases hy with rfl | rfl; exact er_lo.1; exact er_lo.2) (fun h₁ hns hk₁ => ?_)
  have X₁ : K.In h₁ := X.keeps hk₁
  have hx₁ := hk₁ _ _ hx
  have I₁ : InstAt h₁ x (excO C t0) C none := ⟨hx₁, rfl, rfl, trivial⟩
  obtain ⟨oD, hD1, cdD, hD2⟩ : ∃ oD, h₁.get? D = some oD ∧ ∃ cdD, oD.data = .cls cdD := by
    obtain ⟨cdD, hD⟩ := Option.isSome_iff_exists.mp I0.clD
    unfold clsIn at hD
    split at hD
    · rename_i c d cd' sl ho
      exact ⟨_, X₁ _ _ ho, _, rfl⟩
    · cases hD
  have hval : List.lookup ("value" : Str) ([("self", Value.ref x), ("value", v)] : List (Str × Value)).reverse = some v := by
    show List.lookup ("value" : Str) [(("value" : Str), v), (("self" : Str), Value.ref x)] = some v
    simp [List.lookup]
  have nvs : (("self" : Str) == ("value" : Str)) = false := by decide
  have hself : List.lookup ("self" : Str) ([("self", Value.ref x), ("value", v)] : List (Str × Value)).reverse = some (Value.ref x) := by
    show List.lookup ("self" : Str) [(("value" : Str), v), (("self" : Str), Value.ref x)] = some (Value.ref x)
    simp [List.lookup, nvs]
  refine ks_wpAt_execs_cons (ks_wpAt_Expr_any (ks_wpAt_MethodCall (pl := er_pl p0 p1 _) (he := er_eval _ hpos) (ks_wpAt_super_base (f := fI) (cc := cda) rfl rfl (by decide) rfl (X₁ _ _ lk) rfl rfl rfl (X₁ _ _ lc) rfl hvs hfile I0.noS ?_)))
  refine ks_loadName_global rfl rfl (loadGlobal_builtin (hn.keeps hk₁) hsu (hb.keeps hk₁) hbs ⟨rfl, ?_⟩)
  refine wpAny_loadName_free rfl rfl rfl ⟨_, X₁ _ _ lcell, rfl⟩ ?_
  refine wpAny_loadName_local rfl rfl hns hself ?_
  refine ks_wpAny_isType_cls hD1 hD2 ⟨rfl, ?_⟩
  refine ks_wpAny_call_super hD1 hD2 hx₁ rfl (fun c e => by cases e) (looks_mroIn X₁ T.mD) (fun h₂ so2 k₂ => ?_)
  have X₂ : K.In h₂ := X₁.keeps k₂
  have hI : Looks (model prog w) h₂ (isInstance (.ref x) (.type "ValueError")) true := (InstAt.type (od := none) ⟨k₂ _ _ hx₁, rfl, rfl, trivial⟩).andThen (looks_subIn X₂ T.vaC)
  unfold ks_superIn at hsup
  rw [hcl] at hsup
  refine kxs_getMethod kxs_ValueError so2 (looks_opaque X₂ I0.tp) (l₀ := .ref C :: bm) ?_ rfl X₂ hsup hI (ks_ne X₁ I₁ hcl) (by decide) ?_
  · exact fun A Q E s k q => wpAny_bind ((looks_clsIn X₂ hcl) A _ E s k (wpAny_pure q))
  · have hm3 : (h₂.push (kxs_mw "ValueError.__init__" x)).get? h₂.objs.size = some (kxs_mw "ValueError.__init__" x) := Heap.get?_push_at rfl rfl
    have k3 : ∀ b o, h₁.get? b = some o → (h₂.push (kxs_mw "ValueError.__init__" x)).get? b = some o := fun b o e => Heap.get?_push_of_some _ (k₂ _ _ e)
    refine kxs_callWith (i := "ValueError.__init__") (x := x) rfl ?_
    refine evalArgs_plain (Calls.spliced_cons ?_)
    refine ESX.ldL (hns.keeps k3) hval ?_
    refine Calls.spliced_nil ⟨hm3, ?_⟩
    show wpAny _ _ (call (.ref h₂.objs.size) [v]) _ _ _
    refine er_base T (X₁.keeps k3) (k3 _ _ hx₁) hm3 fun h₄ t1 k₄ hx₄ => ?_
    have k4 : ∀ b o, b ≠ x → h₁.get? b = some o → h₄.get? b = some o := fun b o hb e => k₄ b o hb (k3 b o e)
    have X₄ : K.In h₄ := fun b o e => k4 b o (fun z => by rw [z, hnx] at e; cases e) (X₁ b o e)
    have hL : s.heap.objs.size ≠ x := Nat.ne_of_gt (Heap.lt_size hx)
    have hns₄ : h₄.Ns s.heap.objs.size (fun y => List.lookup y ([("self", Value.ref x), ("value", v)] : List (Str × Value)).reverse) := by
      obtain ⟨o, es, ep, ho, r⟩ := hns
      exact ⟨o, es, ep, k4 _ _ hL ho, r⟩
    refine wpAt_of_wpAny ?_
    refine wpAny_execs_cons (plainObj_wpAny_Assign_Attribute ?_)
    refine ESX.ldL hns₄ hval (ESX.ldL hns₄ hself ?_)
    refine set_plain X₄ (ox := excO C t1) (od := none) ⟨hx₄, rfl, rfl, trivial⟩ T.sa ?_
    refine exc_osa X₄ hx₄ hcl (show refsVE (.ref C :: bm) = true from hbm) rfl T.noV (fun h₅ tk₅ dx k₅ dn dne hx₅ hn₅ => ?_)
    have hlt : s.heap.objs.size < h₄.objs.size := hns₄.lt
    refine wpAny_execs_nil (hq h₅ tk₅ dx t1 ⟨fun b o hb e => k₅ b o hb (k4 b o hb (hk₁ b o e)), hx₅, Nat.le_of_lt (Nat.lt_of_lt_of_le hlt dn), dne, hn₅⟩)
end
end SL
set_option maxHeartbeats 4000000
namespace SL
open PySem PySem.Spec PyProof.Rows L2
def spIni (K : PySem.W.Frag) (D fI : Addr) : Sp := fun vs H Q _ => ∃ (a C : Addr) (v : V), vs = [.ref a, v] ∧ ErrC K D fI C ∧ H a = some (exo a C none) ∧
  ∀ dx, H dx = none → dx ≠ a → Q .non (upd (upd H dx (exd dx [("value", v)])) a (exo a C (some dx)))
theorem ok_ini {P : Program} {w : World} {K : PySem.W.Frag} {mg : Str → Option Value} {base : Heap} {D fI : Addr} {fd : FuncData} (I0 : IniT P K D fI fd) (hsu : mg "super" = none) :
    FnOk P w K mg base CX0 1 fI fd ["self", "value"] (spIni K D fI) := by
  refine ⟨fun vs H Q E h => ?_, fun A outer s H args us vs Q E hr e0 hb r hsp => ?_⟩
  · obtain ⟨a, C, v, rfl, _⟩ := h
    rfl
  · obtain ⟨a, C, v, rfl, T, ha, hq⟩ := hsp
    obtain ⟨u1, u, rfl, r1, ru⟩ := vals2 r
    cases r1
    obtain ⟨t0, hx⟩ := exo_at e0.hok ha
    have bk : ∀ b o, base.get? b = some o → s.heap.get? b = some o := fun b o e => (e0.bs b o e).1
    obtain ⟨mb, hb1, hb2⟩ := e0.mod.blt
    have hnx : K.lookup a = none := by
      cases e : K.lookup a with
      | none => rfl
      | some o =>
        have z := (e0.bs a o (e0.mod.kin a o e)).2
        rw [ha] at z
        cases z
    have hd := hr.depth
    refine er_init I0 T (e0.mod.kin.keeps bk) (e0.mod.glob.keeps bk) (hb1.keeps bk) hsu ((hb2 _ (by decide)).trans boot_super) (e0.mod.nolimit.keeps bk) hx hnx hd hb ?_
    intro h' tk dx t1 fin
    obtain ⟨hh, g, dd, tt, os⟩ := s
    have hnd : H dx = none := e0.hok.fresh fin.dbig
    have na : ∀ {b : Addr}, H b = none → b ≠ a := fun {b} n z => by
      rw [z, ha] at n
      cases n
    have nd : ∀ {b : Addr} {o : Obj}, hh.get? b = some o → b ≠ dx := fun {b o} q => Nat.ne_of_lt (Nat.lt_of_lt_of_le (Heap.lt_size q) fin.dbig)
    refine ⟨.non, _, rfl, e0.bare, ?_, ?_, rfl, hq dx hnd fin.dne⟩
    · refine ⟨fun b o q n _ _ => fin.keep b o (na n) q, fun b o q n _ _ => ⟨o.slots, fin.keep b o (na n) q⟩, fun b o q n _ => ?_, fun b o q _ => ?_, fun b xs q => ?_, fun b o v q => ?_, fun b ps q => ⟨#[], ?_⟩⟩
      · rw [upd_ne (na n), upd_ne (nd q)]
        exact n
      · by_cases hba : b = a
        · exact ⟨_, by rw [hba]; exact fin.obj⟩
        · exact ⟨o, fin.keep b o hba q⟩
      · rw [upd_ne (at_ne ha q exo_tup), upd_ne (ne_of_none q hnd)]
        exact q
      · rw [upd_ne (at_ne ha q exo_frz), upd_ne (ne_of_none q hnd)]
        exact q
      · rw [upd_ne (at_ne ha q exo_tbl), upd_ne (ne_of_none q hnd), q]
        simp
    · intro b o q
      by_cases hba : b = a
      · subst hba
        rw [upd_same] at q
        cases q
        exact exo_ok fin.obj
      · rw [upd_ne hba] at q
        by_cases hbd : b = dx
        · subst hbd
          rw [upd_same] at q
          cases q
          exact exd_ok fin.ns (relO_put (fs := []) ru fun g => True.intro)
        · rw [upd_ne hbd] at q
          refine (e0.hok b o q).stay (fun c v hc z => fin.keep c v ?_ z) (fun c hc => ?_) (fun c xs hc => ?_)
          · rcases hc with hc | hc
            · rw [hc]
              exact hba
            · exact at_ne ha hc exo_own
          · rw [upd_ne (at_ne ha hc exo_own), upd_ne (ne_of_none hc hnd)]
            exact hc
          · rw [upd_ne (at_ne ha hc exo_tup), upd_ne (ne_of_none hc hnd)]
            exact hc
theorem ErrC.oex {K : PySem.W.Frag} {D fI C : Addr} (T : ErrC K D fI C) : OexC K C := ⟨T.cls, T.sa, T.exC, T.tyC, T.kC⟩
section
variable {X : Cx} {D fI C : Addr} {fd : FuncData} {x : Str} {p pos : Pos} {e : Expr} {te : TE}
end
end SL
set_option maxHeartbeats 4000000
namespace SL
open PySem PySem.Spec PySem.HandSPX
section
variable {M : Model} {A : Around} {E : Value → Shared → Prop} {h : Heap} {g : Array GenState} {d : Drawn} {t : Nat} {os : OsState}
variable {nm q : Str} {C N : Addr} {bs bm : List Value} {hdct : Bool} {sn : List Str} {sub : List Value} {ab : Bool} {col : Option Bool} {dd : Option Addr} {k0 k1 k2 k3 k5 : Option Value}
end
section
variable {prog : Program} {w : World} {A : Around} {E : Value → Shared → Prop} {R : Result → Shared → Prop} {h : Heap} {g : Array GenState} {d : Drawn} {t : Nat} {os : OsState}
variable {nm q : Str} {C N : Addr} {bs bm : List Value} {hdct : Bool} {sn : List Str} {sub : List Value} {ab : Bool} {col : Option Bool} {dd : Option Addr} {k0 k1 k2 k3 k5 : Option Value}
end
end SL
set_option maxHeartbeats 4000000
namespace SL
open PySem PySem.Spec PyProof.Rows L2
def ErrAt (H : Hp) (a C : Addr) (v : V) : Prop := ∃ d, H a = some (exo a C (some d)) ∧ H d = some (exd d [("value", v)])
theorem ErrAt.same {H H' : Hp} (e : Same H H') {a C : Addr} {v : V} (h : ErrAt H a C v) : ErrAt H' a C v := by
  obtain ⟨d, h1, h2⟩ := h
  exact ⟨d, e _ _ h1, e _ _ h2⟩
theorem IniT.binds {P : Program} {K : PySem.W.Frag} {D fI : Addr} {fd : FuncData} (I0 : IniT P K D fI fd) (hd : fd.defaults = .none) : Binds K fd ["self", "value"] [] := by
  obtain ⟨oc, od, dV, kV, doc, pm, an, cda, ct, osl, cc, q1, q2, p0, p1, p2, p3, p4, p5, p6, p7, p8, p9, efd, _⟩ := I0.fn
  subst efd
  have e : dV = .none := hd
  subst e
  refine Binds.all fun us hl => ?_
  match us, hl with
  | [_, _], _ => rfl
section
variable {X : Cx} {D fI C : Addr} {fd : FuncData} {x : Str} {p pos kpos : Pos} {e : Expr} {te : TE}
end
end SL
set_option maxHeartbeats 4000000
namespace SL
open PySem PySem.Spec PyProof.Rows L2
def CPowW (i j : Int) : Prop := 0 ≤ j ∧ (Builtin.Int.intBits i : Int) * j ≤ 2 ^ 27
theorem op_powW {X : Cx} : OpR X (binaryOp .Pow) (rI CPowW fun i j => .int (i ^ j.toNat)) := opI fun _ _ _ _ _ _ _ hc q => pow_int hc.1 hc.2 q
theorem bits_le {i : Int} {n : Nat} (h : i.natAbs < 2 ^ n) : Builtin.Int.intBits i ≤ n + 1 := by
  unfold Builtin.Int.intBits
  split
  · omega
  · rename_i h0
    have h1 : i.natAbs ≠ 0 := fun e => h0 (by have : i = 0 := by omega
                                              rw [this]; rfl)
    have := (Nat.log2_lt h1).mpr h
    omega
def PotL (f : Nat) (l : List V) : Prop := ∃ o m c : Int, l = [.int o, .int m, .int c] ∧ 0 ≤ o ∧ o < 10 ^ 300 ∧ 0 ≤ m ∧ m < 2 ^ 61 ∧ 0 ≤ c ∧ c + f ≤ 1000000
theorem PotL.mono {f g : Nat} {l : List V} (h : PotL f l) (hg : g ≤ f) : PotL g l := by
  obtain ⟨o, m, c, e, h1, h2, h3, h4, h5, h6⟩ := h
  exact ⟨o, m, c, e, h1, h2, h3, h4, h5, by omega⟩
def Kp (p : Addr) (H H' : Hp) : Prop := ∀ b o, b ≠ p → H b = some o → H' b = some o
theorem Kp.refl (p : Addr) (H : Hp) : Kp p H H := fun _ _ _ h => h
theorem Kp.trans {p : Addr} {H H1 H2 : Hp} (a : Kp p H H1) (b : Kp p H1 H2) : Kp p H H2 := fun c o hc h => b c o hc (a c o hc h)
theorem Kp.of {p : Addr} {H H1 : Hp} (a : Same H H1) : Kp p H H1 := fun c o _ h => a c o h
theorem Kp.upd {p : Addr} {H : Hp} {o : HO} : Kp p H (upd H p o) := fun c u hc h => by rw [upd_ne hc]; exact h
theorem Kp.new {p q : Addr} {H H1 : Hp} {o : HO} (a : Kp p H H1) (hq : H1 q = none) : Kp p H (L2.upd H1 q o) := fun c u hc h => by
  have z := a c u hc h
  rw [upd_ne (ne_of_none z hq)]
  exact z
theorem Kp.seq {K : PySem.W.Frag} {p a : Addr} {H H' : Hp} {xs : List V} (e : Kp p H H') (hap : a ≠ p) (h : SqL K H a xs) : SqL K H' a xs := by
  rcases h with (h | ⟨o, h⟩) | h
  · exact .inl (.inl (e _ _ hap h))
  · exact .inl (.inr ⟨o, e _ _ hap h⟩)
  · exact .inr h
theorem Kp.free {p b : Addr} {H H' : Hp} (e : Kp p H H') (hb : b ≠ p) (h : H' b = none) : H b = none := by
  cases q : H b with
  | none => rfl
  | some o =>
    rw [e b o hb q] at h
    cases h
theorem Kp.same {p : Addr} {H H' : Hp} (e : Kp p H H') : Same (delH H p) (delH H' p) := fun b o h => by
  by_cases hb : b = p
  · rw [hb, delH_same] at h
    cases h
  · rw [delH_ne hb] at h ⊢
    exact e b o hb h
theorem same_new {q : Addr} {H : Hp} {o : HO} (hq : H q = none) : Same H (upd H q o) := fun c u h => by
  rw [upd_ne (ne_of_none h hq)]
  exact h
def Dm (H H' : Hp) : Prop := ∀ b, H' b = none → H b = none
theorem Dm.refl (H : Hp) : Dm H H := fun _ h => h
theorem Dm.trans {H H1 H2 : Hp} (a : Dm H H1) (b : Dm H1 H2) : Dm H H2 := fun c h => a c (b c h)
theorem Kp.dm {p : Addr} {H H' : Hp} (e : Kp p H H') {o : HO} (hp : H' p = some o) : Dm H H' := fun b h => by
  by_cases hb : b = p
  · rw [hb, hp] at h
    cases h
  · exact e.free hb h
theorem Same.dm {H H' : Hp} (e : Same H H') : Dm H H' := fun b h => e.free h
theorem Dm.upd {H : Hp} {a : Addr} {o : HO} : Dm H (L2.upd H a o) := fun b h => by
  by_cases hb : b = a
  · rw [hb, upd_same] at h
    cases h
  · rw [upd_ne hb] at h
    exact h
def spTake : Sp := fun vs H Q _ => ∃ (p : Addr) (n : Int) (f : Nat) (l : List V), vs = [.ref p, .int n] ∧ H p = some (.lst l) ∧ PotL (f + 1) l ∧ 0 < n ∧ n ≤ 10 ^ 18 ∧
  ∀ (r : Int) (l' : List V) (H' : Hp), 0 ≤ r → r < n → PotL f l' → H' p = some (.lst l') → Kp p H H' → Q (.int r) H'
def spOf : Sp := fun vs H Q _ => ∃ (p a : Addr) (f : Nat) (l xs : List V), vs = [.ref p, .ref a] ∧ H p = some (.lst l) ∧ PotL (f + 1) l ∧ H a = some (.lst xs) ∧ a ≠ p ∧ 0 < xs.length ∧ xs.length ≤ 1000000 ∧
  ∀ (x : V) (l' : List V) (H' : Hp), x ∈ xs → PotL f l' → H' p = some (.lst l') → Kp p H H' → Q x H'
def spPot (K : PySem.W.Frag) : Sp := fun vs H Q _ => ∃ (a : Addr) (ns : List Int) (k : Int), vs = [.ref a, .int k] ∧ SqL K H a (ns.map V.int) ∧ 0 ≤ k ∧ k ≤ 1000 ∧ ns.length ≤ 63 ∧
  ∀ (p : Addr) (l : List V) (H' : Hp), H p = none → PotL 1000000 l → H' p = some (.lst l) → Same H H' → Q (.ref p) H'
theorem own_ok (z : Int) : 0 ≤ (if z < 0 then -z else z) % ((10 : Int) ^ (60 : Int).toNat) ^ (5 : Int).toNat * (if decide ((10 : Int) ^ (18 : Int).toNat ≤ if z < 0 then -z else z) = true then 1 else 0) ∧
    (if z < 0 then -z else z) % ((10 : Int) ^ (60 : Int).toNat) ^ (5 : Int).toNat * (if decide ((10 : Int) ^ (18 : Int).toNat ≤ if z < 0 then -z else z) = true then 1 else 0) < 10 ^ 300 := by
  have hM : (0 : Int) < ((10 : Int) ^ (60 : Int).toNat) ^ (5 : Int).toNat := by decide +kernel
  have hM2 : ((10 : Int) ^ (60 : Int).toNat) ^ (5 : Int).toNat = 10 ^ 300 := by decide +kernel
  have a0 := Int.emod_nonneg (if z < 0 then -z else z) (Int.ne_of_gt hM)
  have a1 := Int.emod_lt_of_pos (if z < 0 then -z else z) hM
  rw [hM2] at a0 a1 ⊢
  generalize (if z < 0 then -z else z) % 10 ^ 300 = ow at a0 a1 ⊢
  generalize decide ((10 : Int) ^ (18 : Int).toNat ≤ if z < 0 then -z else z) = b
  cases b with
  | true =>
    rw [if_pos rfl, Int.mul_one]
    exact ⟨a0, a1⟩
  | false =>
    rw [if_neg Bool.false_ne_true, Int.mul_zero]
    exact ⟨Int.le_refl 0, by decide +kernel⟩
theorem pw_10_60 : CPowW 10 60 := ⟨by decide, by decide +kernel⟩
theorem pw_60_5 : CPowW ((10 : Int) ^ (60 : Int).toNat) 5 := ⟨by decide, by decide +kernel⟩
theorem pw_10_18 : CPowW 10 18 := ⟨by decide, by decide +kernel⟩
theorem pw_pos : (0 : Int) < ((10 : Int) ^ (60 : Int).toNat) ^ (5 : Int).toNat := by decide +kernel
theorem b01 (b : Bool) : -(2 ^ 64) < (if b = true then (1 : Int) else 0) ∧ (if b = true then (1 : Int) else 0) < 2 ^ 64 := by cases b <;> decide
theorem mod_small (z : Int) : -(2 ^ 64) < z % 2305843009213693951 ∧ z % 2305843009213693951 < 2 ^ 64 := by omega
theorem mix_ok (z : Int) : 0 ≤ z % 2305843009213693921 ∧ z % 2305843009213693921 < 2 ^ 61 := by omega
theorem atI_mod {xs : List V} {i : Int} {n : Nat} (hn : xs.length = n) (h0 : 0 ≤ i) (h1 : i < n) : ∃ v, atI xs i = some v ∧ v ∈ xs := by
  obtain ⟨j, hj⟩ : ∃ j : Nat, i = (j : Int) := ⟨i.toNat, by omega⟩
  have hlt : j < xs.length := by omega
  refine ⟨xs[j], ?_, List.getElem_mem hlt⟩
  rw [hj]
  exact atI_nat (List.getElem?_eq_getElem hlt)
end SL
set_option maxHeartbeats 4000000
namespace SL
open PySem PySem.Spec PyProof.Rows L2
structure NewE (H H' : Hp) (as Cs : List Addr) (v : V) : Prop where
  same : Same H H'
  len : as.length = Cs.length
  at_ : ∀ (i : Nat) (a C : Addr), as[i]? = some a → Cs[i]? = some C → ErrAt H' a C v
theorem ErrAt.kp {H H' : Hp} {L a C : Addr} {v : V} {xs : List V} (h : ErrAt H a C v) (hL : H L = some (.lst xs)) (kp : Kp L H H') : ErrAt H' a C v := by
  obtain ⟨d, h1, h2⟩ := h
  have n1 : a ≠ L := ne_of h1 hL (fun z => by
    have z' : HO.ext _ = HO.lst xs := z
    cases z')
  have n2 : d ≠ L := ne_of h2 hL (fun z => by
    have z' : HO.ext _ = HO.lst xs := z
    cases z')
  exact ⟨d, kp _ _ n1 h1, kp _ _ n2 h2⟩
structure MadeTo (c : Nat → Addr) (v : V) (H0 H : Hp) (L : Addr) (as : List Addr) (n : Nat) : Prop where
  lst : H L = some (.lst (as.map V.ref))
  len : as.length = n
  at_ : ∀ (i : Nat) (a : Addr), as[i]? = some a → ErrAt H a (c i) v
  kp : Kp L H0 H
end SL
set_option maxHeartbeats 4000000
namespace PySem.SeqAt
open AutoSeq1 (wpAny_loadPart')
open MeetsSeq MeetsSeq2 MeetsSeq3 SeqRoads2
section
variable {prog : Program} {w : World}
theorem slb_list_ne (l b : Addr) (items items2 : Array Value) (n n2 : Nat) (dd dd2 : Option Addr) (sl sl2 : Array (Option Value)) (hsz : items.size ≠ items2.size) :
    MeetsIn prog w (Builtin.«list.__eq__» ⟨[.ref l, .ref b], []⟩)
      (fun A R s => s.heap.get? l = some { cls := .type "list", dict := dd, data := .seq items n, slots := sl } ∧ s.heap.get? b = some { cls := .type "list", dict := dd2, data := .seq items2 n2, slots := sl2 } ∧
        R (.ok (.ret (.bool false))) s) := by
  intro A R s h
  obtain ⟨hp, g, d, tk, os⟩ := s; obtain ⟨hl, hb, h⟩ := h
  have f3 := AutoSeq1.sub_list_list
  have hne : (items.size != items2.size) = true := by simp [hsz]
  wp_walk using wpAny_loadPart' hl, wpAny_loadPart' hb
  exact h
theorem slb_list_ne2 (l b : Addr) (items items2 : Array Value) (n n2 : Nat) (dd dd2 : Option Addr) (sl sl2 : Array (Option Value)) (hsz : items.size ≠ items2.size) :
    MeetsIn prog w (Builtin.«list.__ne__» ⟨[.ref l, .ref b], []⟩)
      (fun A R s => s.heap.get? l = some { cls := .type "list", dict := dd, data := .seq items n, slots := sl } ∧ s.heap.get? b = some { cls := .type "list", dict := dd2, data := .seq items2 n2, slots := sl2 } ∧
        R (.ok (.ret (.bool true))) s) := by
  intro A R s h
  obtain ⟨hp, g, d, tk, os⟩ := s; obtain ⟨hl, hb, h⟩ := h
  have f3 := AutoSeq1.sub_list_list
  have hne : (items.size != items2.size) = true := by simp [hsz]
  wp_walk using wpAny_loadPart' hl, wpAny_loadPart' hb
  exact h
theorem slb_rn_ne {A : Around} {s : Shared} {l b : Addr} {items items2 : Array Value} (hl : s.heap.IsList l items) (hb : s.heap.IsList b items2) (hsz : items.size ≠ items2.size) (hu : A.units < cLine)
    (E Q : Value → Shared → Prop) (h : Q (.bool true) s) : wpAny (model prog w) A (richCompare .NotEq (.ref l) (.ref b)) Q E s := by
  obtain ⟨⟨cls, dd, data, sl⟩, ho, hc, n, hd⟩ := id hl
  obtain ⟨⟨cls2, dd2, data2, sl2⟩, ho2, hc2, n2, hd2⟩ := id hb
  simp only at hc hd hc2 hd2
  subst hc hd hc2 hd2
  have ta : s.TypeIs (.ref l) "list" := ⟨_, ho, rfl⟩
  have tb : s.TypeIs (.ref b) "list" := ⟨_, ho2, rfl⟩
  exact wpAny_richCompare_same_room (op := .NotEq) ta tb F.slot_list_ne (call_meetsIn F.slot_list_ne ta F.entry_list_ne (F.args_list_ne_2 _ _) (slb_list_ne2 l b items items2 n n2 dd dd2 sl sl2 hsz)
    ⟨ho, ho2, show Value.bool true ≠ Value.notImplemented ∧ Q (.bool true) s from ⟨(fun x => nomatch x), h⟩⟩) hu
theorem slb_rc_ne {A : Around} {s : Shared} {l b : Addr} {items items2 : Array Value} (hl : s.heap.IsList l items) (hb : s.heap.IsList b items2) (hsz : items.size ≠ items2.size) (hu : A.units < cLine)
    (E Q : Value → Shared → Prop) (h : Q (.bool false) s) : wpAny (model prog w) A (richCompare .Eq (.ref l) (.ref b)) Q E s := by
  obtain ⟨⟨cls, dd, data, sl⟩, ho, hc, n, hd⟩ := id hl
  obtain ⟨⟨cls2, dd2, data2, sl2⟩, ho2, hc2, n2, hd2⟩ := id hb
  simp only at hc hd hc2 hd2
  subst hc hd hc2 hd2
  have ta : s.TypeIs (.ref l) "list" := ⟨_, ho, rfl⟩
  have tb : s.TypeIs (.ref b) "list" := ⟨_, ho2, rfl⟩
  exact wpAny_richCompare_same_room (op := .Eq) ta tb F.slot_list_eq (call_meetsIn F.slot_list_eq ta F.entry_list_eq (F.args_list_eq_2 _ _) (slb_list_ne l b items items2 n n2 dd dd2 sl sl2 hsz)
    ⟨ho, ho2, show Value.bool false ≠ Value.notImplemented ∧ Q (.bool false) s from ⟨(fun x => nomatch x), h⟩⟩) hu
end
end PySem.SeqAt
namespace SL
open PySem PySem.Spec PyProof.Rows L2
structure PM (X : Cx) (cs : List MatchCase) (t : V → TS) : Prop where
  run : ∀ (pins : List (Addr × Obj)) (s : Shared) (σ : L2.St) (H : Hp) (D : Ends) (v : V) (u : Value) (first : Bool), Inv X pins σ H s → RelV v u → t v D σ H →
    wpAny (model X.prog X.w) X.A (matchCases cs X.env u first) (SP X pins D) X.xe s
def mNil : V → TS := fun _ D σ H => D.nx σ H
def mStr (y : Str) (tb : TS) (tr : V → TS) : V → TS := fun v D σ H => ∃ z, v = .str z ∧ if z = y then tb D σ H else tr v D σ H
section
variable {X : Cx}
theorem pm_nil : PM X [] mNil := ⟨fun pins s σ H D v u first I r h => wpAny_matchCases_nil ⟨σ, H, I, h⟩⟩
theorem pm_str {y : Str} {j : Nat} {pos pos2 : Pos} {body : List Stmt} {rest : List MatchCase} {tb : TS} {tr : V → TS} (hb : PSs X body tb) (hr : PM X rest tr) :
    PM X (⟨.MatchValue (.Constant (.str y) j pos) pos2, none, body⟩ :: rest) (mStr y tb tr) := by
  refine ⟨fun pins s σ H D v u first I r h => ?_⟩
  obtain ⟨z, rfl, h⟩ := h
  refine wpAny_matchCases_cons (wpAny_matchPattern_Value ?_)
  refine thn (pe_str.run pins s σ H (fun w H1 => w = .str y ∧ H1 = H) I ⟨rfl, rfl⟩) fun x s1 hx => ?_
  obtain ⟨w, H1, I1, rw_, rfl, rfl⟩ := hx
  refine thn (op_eq (X := X) pins s1 σ H1 (.str z) (.str y) u x (fun w H2 => w = .bl (decide (z = y)) ∧ H2 = H1) I1 r rw_ ⟨rfl, ?_, rfl⟩) fun c s2 hc => ?_
  · by_cases e : z = y
    · rw [e, decide_eq_true rfl, decide_eq_true rfl]
    · rw [decide_eq_false e, decide_eq_false fun q => e (V.str.inj q)]
  obtain ⟨w, H2, I2, r2, rfl, rfl⟩ := hc
  cases r2
  refine wpAny_truthy_bool ?_
  by_cases e : z = y
  · rw [decide_eq_true e, if_pos rfl]
    rw [if_pos e] at h
    exact wpAny_assignInOrder_none (hb.run pins s2 σ H2 D I2 h)
  · rw [decide_eq_false e, if_neg Bool.false_ne_true]
    rw [if_neg e] at h
    exact hr.run pins s2 σ H2 D (.str z) u false I2 r h
theorem ps_match {e : Expr} {cs : List MatchCase} {pos : Pos} {te : TE} {t : V → TS} (he : PE X e te) (hc : PM X cs t) : PS X (.Match e cs pos) (fun D σ H => te σ H fun v H1 => t v D σ H1) := by
  refine ⟨fun pins s σ H D I h => ?_⟩
  exact wpAny_Match (thn (he.run pins s σ H _ I h) fun u s1 ⟨v, H1, I1, r1, q1⟩ => hc.run pins s1 σ H1 D v u true I1 r1 q1)
end
def rEqNil (K : PySem.W.Frag) : R2 := fun x y H Q => ∃ (a b : Addr) (xs : List V), x = .ref a ∧ y = .ref b ∧ SqL K H a xs ∧ H b = some (.lst []) ∧ Q (.bl xs.isEmpty) H
def rNeNil (K : PySem.W.Frag) : R2 := fun x y H Q => ∃ (a b : Addr) (xs : List V), x = .ref a ∧ y = .ref b ∧ SqL K H a xs ∧ H b = some (.lst []) ∧ Q (.bl (!xs.isEmpty)) H
section
variable {X : Cx}
theorem op_eqNil (hu : X.A.units + 64 < cLine) : OpR X (compareOp .Eq) (rEqNil X.K) := by
  intro pins s σ H x y v u Q I rx ry h
  obtain ⟨a, b, xs, rfl, rfl, ha, hb, q⟩ := h
  cases rx
  cases ry
  obtain ⟨its, rv, pl, _⟩ := I.list ha
  obtain ⟨its2, rv2, pl2, _⟩ := I.list (SqL.of hb)
  cases rv2
  cases xs with
  | nil =>
    cases rv
    exact SeqAt.rcP_lists (e := fun _ => true) pl.isList pl2.isList rfl (by omega) (fun j h1 => absurd h1 (by simp)) _ _ ⟨.bl true, H, I, rfl, q⟩
  | cons x xs =>
    cases rv
    exact SeqAt.slb_rc_ne pl.isList pl2.isList (by simp) (by omega) _ _ ⟨.bl false, H, I, rfl, q⟩
theorem op_neNil (hu : X.A.units + 64 < cLine) : OpR X (compareOp .NotEq) (rNeNil X.K) := by
  intro pins s σ H x y v u Q I rx ry h
  obtain ⟨a, b, xs, rfl, rfl, ha, hb, q⟩ := h
  cases xs with
  | nil => exact op_neD hu pins s σ H _ _ v u Q I rx ry ⟨.list [], .list [], .lst ha .nil, .lst (SqL.of hb) .nil, by decide +kernel, by decide +kernel, q⟩
  | cons x xs =>
    cases rx
    cases ry
    obtain ⟨its, rv, pl, _⟩ := I.list ha
    obtain ⟨its2, rv2, pl2, _⟩ := I.list (SqL.of hb)
    cases rv2
    cases rv
    exact SeqAt.slb_rn_ne pl.isList pl2.isList (by simp) (by omega) _ _ ⟨.bl true, H, I, rfl, q⟩
end
theorem walk_zipT {K : PySem.W.Frag} {a b : Addr} {xs ys : List V} {n : Nat} (hn : n = min xs.length ys.length) : Walk (RZ.ItzT K a b) n (fun H => SqT K H a xs ∧ SqT K H b ys) (YPair (fun i => xs[i]?) (fun i => ys[i]?)) := by
  subst hn
  refine ⟨fun i _ hi q => ?_, fun _ q => ⟨xs, ys, q.1, q.2, by omega⟩, fun i H v H' _ q y => ?_⟩
  · have h1 : i < xs.length := by omega
    have h2 : i < ys.length := by omega
    exact ⟨xs, ys, xs[i], ys[i], q.1, q.2, by simp [h1], by simp [h2]⟩
  · obtain ⟨T, x, z, h1, h2, h3, h4, h5⟩ := y
    exact ⟨T, x, z, h1, h2, h3, h4 xs q.1, h5 ys q.2⟩
end SL
set_option maxHeartbeats 4000000
namespace SL
open PySem PySem.Spec PyProof.Rows L2
theorem atKey_none {κ : Type} [DecidableEq κ] {xs : List (κ × Addr × Value)} {k : κ} (h : k ∉ xs.map (·.1)) : atKey xs k = none :=
  atKey_none_of_get fun j p e => h (List.mem_map.mpr ⟨(k, p), List.mem_of_getElem? e, rfl⟩)
theorem storedAll_nd {κ : Type} [DecidableEq κ] : ∀ (ps acc : List (κ × Addr × Value)), ((acc ++ ps).map (·.1)).Nodup → storedAllH acc ps = acc ++ ps
  | [], acc, _ => by simp [storedAllH]
  | p :: ps, acc, h => by
    have hn : p.1 ∉ acc.map (·.1) := by
      intro hm
      rw [List.map_append, List.map_cons] at h
      exact (List.nodup_append.mp h).2.2 _ hm _ List.mem_cons_self rfl
    have e1 : storedAllH acc (p :: ps) = storedAllH (acc ++ [p]) ps := by
      show storedAllH (storedH acc p.1 p.2.1 p.2.2) ps = _
      rw [storedH_new (atKey_none hn)]
    rw [e1, storedAll_nd ps (acc ++ [p]) (by rw [List.append_assoc]; exact h), List.append_assoc]
    rfl
section
variable {X : Cx}
theorem pairsT_of {pins : List (Addr × Obj)} {σ : L2.St} {H : Hp} {s : Shared} (I : Inv X pins σ H s) : ∀ {ps : List (Addr × Addr)} {kvs : List (List Key × V)},
    Paired (fun p kv => SqT X.K H p.1 [.ref p.2, kv.2] ∧ H p.2 = some (.tup (kv.1.map kV))) ps kvs →
    ∃ xs : List (List Key × Addr × Value), xs.length = ps.length ∧ xs.map (·.1) = kvs.map (·.1) ∧ Paired (fun (p : List Key × V) (q : List Key × Addr × Value) => p.1 = q.1 ∧ H q.2.1 = some (.tup (p.1.map kV)) ∧ RelV p.2 q.2.2) kvs xs ∧
      (∀ x ∈ xs, H x.2.1 = some (.tup (x.1.map kV))) ∧
      ∀ (j : Nat) (x : List Key × Addr × Value), xs[j]? = some x → ∃ b : Addr, (ps[j]?).map (·.1) = some b ∧ IsTup s.heap b #[.ref x.2.1, x.2.2]
  | _, _, .nil => ⟨[], rfl, rfl, .nil, fun _ h => absurd h (by simp), fun j q e => absurd e (by simp)⟩
  | _, _, .cons (a := p) (b := kv) h t => by
    obtain ⟨xs, hl, hk, pr, hm, hp⟩ := pairsT_of I t
    obtain ⟨its, rv, ht, _⟩ := I.tuple h.1
    obtain ⟨u, y, ei, ru, ry⟩ := vals2 rv
    subst ei
    cases ru
    refine ⟨(kv.1, p.2, y) :: xs, by rw [List.length_cons, List.length_cons, hl], by rw [List.map_cons, List.map_cons, hk], .cons ⟨rfl, h.2, ry⟩ pr, fun x hx => ?_, fun j q e => ?_⟩
    · rcases List.mem_cons.mp hx with rfl | hx
      · exact h.2
      · exact hm x hx
    · cases j with
      | zero =>
        have e' : (kv.1, p.2, y) = q := Option.some.inj e
        subst e'
        exact ⟨p.1, rfl, ht⟩
      | succ j =>
        obtain ⟨b, e1, e2⟩ := hp j q (by simpa using e)
        exact ⟨b, by simpa using e1, e2⟩
theorem call_dictT (hcalm : X.calm = true) (hu : X.A.units + 2 < cLine) : CallR X (.type "dict") (fun xs H Q => ∃ (a : Addr) (ps : List (Addr × Addr)) (kvs : List (List Key × V)), xs = [.ref a] ∧ SqL X.K H a (ps.map fun p => V.ref p.1) ∧
    Paired (fun p kv => SqT X.K H p.1 [.ref p.2, kv.2] ∧ H p.2 = some (.tup (kv.1.map kV))) ps kvs ∧ (kvs.map (·.1)).Nodup ∧
    ∀ p, H p = none → Q (.ref p) (upd H p (.dT kvs))) := by
  intro pins s σ H xs us Q I r q
  obtain ⟨a, ps, kvs, ex, hq, hp, nd, q⟩ := q
  subst ex
  obtain ⟨u, eu, rx⟩ := vals1 r
  subst eu
  cases rx
  obtain ⟨its, rv, pl, hz⟩ := I.list hq
  have ei : its = ps.map fun p => Value.ref p.1 := by
    have := refs_at (ps := ps.map (·.1)) (us := its) (by rw [List.map_map]; exact rv)
    rw [this, List.map_map]
    rfl
  subst ei
  rw [List.length_map] at hz
  obtain ⟨ys, hl, hk, pr, hm, hpr⟩ := pairsT_of I hp
  obtain ⟨o, n, ho, hc, hd, hdat⟩ := pl
  have A := PairArg.list (prog := X.prog) (w := X.w) a (ps.map fun p => Value.ref p.1).toArray (fun j => (ps.getD j (0, 0)).1) (ys.map fun y => (Value.ref y.2.1, y.2.2))
  have ndY : (ys.map (·.1)).Nodup := by rw [hk]; exact nd
  have key : ∀ (h' : Heap), (∀ b o, b ≠ s.heap.objs.size → s.heap.get? b = some o → h'.get? b = some o) → ∀ x ∈ ys, (tupleKind (mixKind X.prog X.w)).is h' x.1 x.2.1 := fun h' hk' x hx => by
    have k0 := key_of I.hok (hm x hx)
    obtain ⟨o, items, n, ho, hc, hd, hi⟩ := k0
    exact ⟨o, items, n, hk' _ _ (Nat.ne_of_lt (Heap.lt_size ho)) ho, hc, hd, hi⟩
  refine call_dict_pairsH (knd := tupleKind (mixKind X.prog X.w)) (ps := ys) A (I.ok.hd hcalm) (show X.A.in1.in1.units < cLine from hu) ⟨⟨o, n, ho, hc, hd, hdat⟩, ?_, ?_⟩ ⟨by rw [List.length_map], fun i key v hr => ?_⟩ ?_ (by rw [List.length_map, hl]; exact hz) fun h' tk hd' hk2 => ?_
  · rw [List.length_map, List.size_toArray, List.length_map, hl]
  · intro j k v e
    obtain ⟨y, hy, e2⟩ := Option.map_eq_some_iff.mp (List.getElem?_map .. ▸ e)
    have e3 : Value.ref y.2.1 = k ∧ y.2.2 = v := Prod.mk.inj e2
    obtain ⟨rfl, rfl⟩ := e3
    obtain ⟨b, hb, ht⟩ := hpr j y hy
    obtain ⟨p, hpj, rfl⟩ := Option.map_eq_some_iff.mp hb
    have e5 : (ps.getD j (0, 0)).1 = p.1 := by rw [List.getD_eq_getElem?_getD, hpj]; rfl
    refine ⟨?_, ?_⟩
    · show _ = some (Value.ref (ps.getD j (0, 0)).1)
      rw [e5]
      simp [hpj]
    · show PairAt _ (ps.getD j (0, 0)).1 _ _
      rw [e5]
      exact .inl ht
  · have hr' : (ys.map fun y => (Value.ref y.2.1, y.2.2))[i]? = some (key, v) := hr
    rw [List.getElem?_map] at hr'
    obtain ⟨y, hy, e2⟩ := Option.map_eq_some_iff.mp hr'
    have e3 : Value.ref y.2.1 = key ∧ y.2.2 = v := Prod.mk.inj e2
    obtain ⟨rfl, rfl⟩ := e3
    exact ⟨y.1, y.2.1, hy, rfl⟩
  · intro h' hk' x hx
    exact key h' (fun b o h1 h2 => hk' b o h1 (fun z => nomatch z) h2) x hx
  · rw [storedAll_nd ys [] (by simpa using ndY), List.nil_append] at hd'
    have hmod : (s.heap.objs.size == sysModules) = false := beq_eq_false_iff_ne.mpr (Nat.ne_of_gt I.big)
    have hnew : H s.heap.objs.size = none := I.hok.fresh (Nat.le_refl _)
    have hkv : kvs.length = ps.length := by
      have := congrArg List.length hk
      rw [List.length_map, List.length_map] at this
      omega
    refine ⟨.ref s.heap.objs.size, upd H s.heap.objs.size (.dT kvs), I.laid (t' := tk) (fun b u e => hk2 b u (fun z => nomatch z) e) (Nat.le_refl _) (show ObjOk X.prog X.w _ _ _ (.dT kvs) from ⟨by rw [hkv]; exact hz, hmod, ys, ?_, ?_⟩), rfl, q _ hnew⟩
    · have lift : ∀ {l : List (List Key × V)} {m : List (List Key × Addr × Value)}, Paired (fun (p : List Key × V) (q : List Key × Addr × Value) => p.1 = q.1 ∧ H q.2.1 = some (.tup (p.1.map kV)) ∧ RelV p.2 q.2.2) l m →
          Paired (fun (p : List Key × V) (q : List Key × Addr × Value) => p.1 = q.1 ∧ upd H s.heap.objs.size (.dT kvs) q.2.1 = some (.tup (p.1.map kV)) ∧ RelV p.2 q.2.2) l m := by
        intro l m z
        induction z with
        | nil => exact .nil
        | cons hz _ ih => exact .cons ⟨hz.1, by rw [upd_ne (ne_of_none hz.2.1 hnew)]; exact hz.2.1, hz.2.2⟩ ih
      exact lift pr
    · obtain ⟨o, es, ep, h1, h2, h3, h4, _, h6⟩ := hd'
      exact ⟨o, es, ep, h1, h2, h3, h4, h6⟩
end
end SL
set_option maxHeartbeats 4000000
namespace SL
open PySem PySem.Spec PyProof.Rows L2
def clB (K : PySem.W.Frag) (C : Addr) : Bool := match K.lookup C with
  | some ⟨.type "type", _, .cls cd, sl⟩ => (match cd.mro, sl.toList with
    | .ref C' :: bm, [_, _, _, _, some (.builtin n), _] => C' == C && (n == "ValueError.__new__" && (!cd.hasDel && (cd.hasDict && PySem.HandSPX.refsVE bm)))
    | _, _ => false)
  | _ => false
theorem clB_ok {K : PySem.W.Frag} {C : Addr} (h : clB K C = true) :
    ∃ nm q N bs bm sn sub ab col dd k0 k1 k2 k3 k5, K.lookup C = some (excClassObj nm q C N bs bm true sn sub ab col dd k0 k1 k2 k3 k5 "ValueError.__new__") ∧ PySem.HandSPX.refsVE bm = true := by
  unfold clB at h
  split at h
  · rename_i dd cd sl ho
    split at h
    · rename_i C' bm k0 k1 k2 k3 n k5 hm hs
      simp only [Bool.and_eq_true, beq_iff_eq, Bool.not_eq_true'] at h
      obtain ⟨rfl, rfl, hdel, hd, hr⟩ := h
      obtain ⟨nm, bs, mro, ns, qn, hdc, sn, sub, ab, col, del⟩ := cd
      dsimp only at hm hdel hd
      subst hm hdel hd
      have hsl : sl = #[k0, k1, k2, k3, some (.builtin "ValueError.__new__"), k5] := by
        obtain ⟨l⟩ := sl
        simp only at hs
        rw [hs]
      subst hsl
      exact ⟨nm, qn, ns, bs, bm, sn, sub, ab, col, dd, k0, k1, k2, k3, k5, ho, hr⟩
    · cases h
  · cases h
def dO (a b : Option (Option Value)) : Bool := decide (a = b)
def dB (a : Option Bool) : Bool := decide (a = some true)
def errB (K : PySem.W.Frag) (D fI C : Addr) : Bool :=
  clB K C && (dO (PySem.W.findIn K (.ref C) "__setattr__") (some (some (.builtin "object.__setattr__"))) && (dO (PySem.W.findIn K (.ref C) "__getattribute__") (some (some (.builtin "BaseException.__getattribute__"))) &&
  (dO (PySem.W.findIn K (.ref C) "__getattr__") (some none) && (dO (PySem.W.findIn K (.ref C) "value") (some none) && (dO (PySem.W.findIn K (.ref C) "__init__") (some (some (.ref fI))) &&
  (decide (PySem.W.typeIn K (.ref fI) = some (.type "function")) && (PySem.W.keepIn K (.ref C) && (dB (PySem.W.subIn K (.ref C) (.type "BaseException")) && (dB (PySem.W.subIn K (.ref C) (.type "ValueError")) &&
  (decide (PySem.W.typeIn K (.ref C) = some (.type "type")) && (PySem.W.hasDictIn K C && (dB (PySem.W.mroIn K C (.ref D)) && (dO (PySem.W.ks_superIn K C D "__init__") (some (some (.builtin "ValueError.__init__"))) &&
  (dO (PySem.W.findIn K (.ref C) "__class__") (some (some (.builtin "object.__class__"))) && (dO (PySem.W.specialIn K (.builtin "object.__class__") "__get__") (some (some (.builtin "getset_descriptor.__get__"))) &&
  (dB (PySem.W.takesIn K (.builtin "object.__class__")) && dB (PySem.W.mroIn K C (.type "object"))))))))))))))))))
theorem errB_ok {K : PySem.W.Frag} {D fI C : Addr} (h : errB K D fI C = true) : ErrC K D fI C := by
  unfold errB dO dB at h
  simp only [Bool.and_eq_true, decide_eq_true_eq] at h
  obtain ⟨h1, h2, h3, h4, h5, h6, h7, h8, h9, h10, h11, h12, h13, h14, h15, h16, h17, h18⟩ := h
  exact ⟨clB_ok h1, h2, h3, h4, h5, h6, h7, h8, h9, h10, h11, h12, h13, h14, h15, h16, h17, h18⟩
abbrev FnI : Type := Option (Str × Str × Arguments × FuncBody × Scope × Addr × Addr × List Str)
def fnI (K : PySem.W.Frag) (f : Addr) : FnI := match K.lookup f with
  | some ⟨_, _, .func fd, _⟩ => some (fd.name, fd.qualname, fd.params, fd.body, fd.scope, fd.globals, fd.builtins, fd.closure.map (·.1))
  | _ => none
def iniV (q1 q2 p0 p1 p2 p3 p4 p5 p6 p7 p8 p9 : Pos) : FnI := some ("__init__", "LabelError.__init__", erA q1 q2, .stmts (erB p0 p1 p2 p3 p4 p5 p6 p7 p8 p9), erS, mainGlobals, builtinsNs, ["__class__"])
def fileB (P : Program) (vs : Array Value) : Bool := match vs[2]? with
  | some (Value.str file _) => ((P.main.file : Str) == file)
  | _ => false
def iniB (P : Program) (K : PySem.W.Frag) (D fI : Addr) : Bool := (match K.lookup fI with
  | some ⟨_, _, .func fd, _⟩ => (match fd.code, fd.closure, fd.defaults with
    | .ref cda, [(_, cc)], .none => PySem.W.codeIn K (.ref cda) "LabelError.__init__" && ((match K.lookup cda with
        | some ⟨_, _, .fields vs, _⟩ => fileB P vs
        | _ => false) && (match K.lookup cc with
        | some ⟨_, _, .cell (some (.ref D')), _⟩ => D' == D
        | _ => false))
    | _, _, _ => false)
  | _ => false) && ((PySem.W.clsIn K D).isSome && decide (PySem.W.nsIn K cStatics "thirdparty.any" = some none))
theorem iniB_ok {P : Program} {K : PySem.W.Frag} {D fI : Addr} {q1 q2 p0 p1 p2 p3 p4 p5 p6 p7 p8 p9 : Pos} (h : iniB P K D fI = true)
    (e : fnI K fI = iniV q1 q2 p0 p1 p2 p3 p4 p5 p6 p7 p8 p9) (hp : (p2.endLine == p4.line) = true) (hn : (P.main.scope.names.lookup ("super" : Str)).isSome = false) :
    ∃ fd, IniT P K D fI fd ∧ fd.defaults = .none := by
  unfold iniB at h
  rw [Bool.and_eq_true] at h
  obtain ⟨h1, h2⟩ := h
  rw [Bool.and_eq_true, decide_eq_true_eq] at h2
  unfold fnI at e
  cases lk : K.lookup fI with
  | none => rw [lk] at h1; cases h1
  | some o =>
    rw [lk] at h1 e
    obtain ⟨oc, od, dt, osl⟩ := o
    cases dt with
    | func fd =>
      obtain ⟨n1, n2, n3, n4, n5, n6, n7, n8, n9, n10, n11, n12, n13, n14, n15⟩ := fd
      have e2 : (some (n1, n2, n3, n4, n5, n6, n15, n7.map (·.1)) : FnI) = iniV q1 q2 p0 p1 p2 p3 p4 p5 p6 p7 p8 p9 := e
      unfold iniV at e2
      simp only [Option.some.injEq, Prod.mk.injEq] at e2
      obtain ⟨e1, e2, e3, e4, e5, e6, e7, e8⟩ := e2
      subst e1 e2 e3 e4 e5 e6 e7
      dsimp only at h1
      split at h1
      · rename_i cda nm cc
        rw [List.map_cons, List.map_nil] at e8
        have e9 : nm = "__class__" := (List.cons.inj e8).1
        subst e9
        simp only [Bool.and_eq_true] at h1
        obtain ⟨c1, c2, c3⟩ := h1
        refine ⟨_, ⟨⟨oc, od, _, _, _, _, _, cda, _, osl, cc, q1, q2, p0, p1, p2, p3, p4, p5, p6, p7, p8, p9, rfl, hp, lk, c1, ?_, ?_⟩, h2.1, hn, h2.2⟩, rfl⟩
        · split at c2
          · rename_i ccl cdd vs ccs ho
            unfold fileB at c2
            split at c2
            · rename_i file tf hv
              exact ⟨ccl, cdd, vs, ccs, file, tf, ho, hv, c2⟩
            · cases c2
          · cases c2
        · split at c3
          · rename_i cl cld D' csl ho
            have : D' = D := beq_iff_eq.mp c3
            subst this
            exact ⟨cl, cld, csl, ho⟩
          · cases c3
      · cases h1
    | _ => cases h1
end SL
set_option maxHeartbeats 4000000
namespace SL
open PySem PySem.Spec PyProof.Rows L2
structure DefA where
  at_ : PySem.W.Frag → Addr
  name : Str
  qual : Str
  params : Arguments
  body : List Stmt
  scope : Scope
  dvs : PySem.W.Frag → List V
def fnWA (K : PySem.W.Frag) (a : Addr) : He.FnW := match K.lookup a with
  | some ⟨_, _, .func fd, _⟩ => some (fd.name, fd.qualname, fd.params, fd.body, fd.scope, fd.globals, fd.closure, fd.builtins)
  | _ => none
def DefA.val (d : DefA) : He.FnW := some (d.name, d.qual, d.params, .stmts d.body, d.scope, mainGlobals, [], builtinsNs)
def DefA.ok (K : PySem.W.Frag) (d : DefA) : Bool := PySem.W.keepIn K (.ref (d.at_ K)) && (match K.lookup (d.at_ K) with
  | some ⟨_, _, .func fd, _⟩ => PySem.W.codeIn K fd.code d.qual && He.dflB K fd.defaults (d.dvs K)
  | _ => false)
theorem DefA.funD {K : PySem.W.Frag} {d : DefA} (e : fnWA K (d.at_ K) = d.val) (c : d.ok K = true) : ∃ fd, FunD K d.name d.qual d.params d.body d.scope (d.dvs K) [] (d.at_ K) fd := by
  obtain ⟨kp, c2⟩ := He.ba c
  unfold fnWA at e
  cases q : K.lookup (d.at_ K) with
  | none =>
    rw [q] at c2
    cases c2
  | some o =>
    obtain ⟨oc, od, dt, osl⟩ := o
    rw [q] at c2 e
    cases dt with
    | func fd =>
      obtain ⟨n1, n2, n3, n4, n5, n6, n7, n8, n9, n10, n11, n12, n13, n14, n15⟩ := fd
      have e2 : (some (n1, n2, n3, n4, n5, n6, n7, n15) : He.FnW) = some (d.name, d.qual, d.params, .stmts d.body, d.scope, mainGlobals, [], builtinsNs) := e
      simp only [Option.some.injEq, Prod.mk.injEq] at e2
      obtain ⟨h1, h2, h3, h4, h5, h6, h7, h8⟩ := e2
      subst h1 h2 h3 h4 h5 h6 h7 h8
      have c3 : (PySem.W.codeIn K n13 d.qual && He.dflB K n8 (d.dvs K)) = true := c2
      obtain ⟨k1, k2⟩ := He.ba c3
      exact ⟨_, ⟨oc, od, n8, n9, n10, n11, n12, n13, n14, osl, rfl, q, k1, He.dflB_ok k2, .inl rfl⟩, kp⟩
    | _ => cases c2
def pga (K : PySem.W.Frag) (p : Addr) : Addr := match PySem.W.recIn K p "property" with
  | some (.ref g :: _) => g
  | _ => 0
structure IsC (K : PySem.W.Frag) (C : Addr) : Prop where
  ha : PySem.W.findIn K (.ref C) "__class__" = some (some (.builtin "object.__class__"))
  hn : PySem.W.specialIn K (.builtin "object.__class__") "__get__" = some (some (.builtin "getset_descriptor.__get__"))
  htk : PySem.W.takesIn K (.builtin "object.__class__") = some true
  hm : PySem.W.mroIn K C (.type "object") = some true
  ty : PySem.W.typeIn K (.ref C) = some (.type "type")
  cs : (PySem.W.clsIn K C).isSome = true
def isCB (K : PySem.W.Frag) (C : Addr) : Bool := dO (PySem.W.findIn K (.ref C) "__class__") (some (some (.builtin "object.__class__"))) && (dO (PySem.W.specialIn K (.builtin "object.__class__") "__get__") (some (some (.builtin "getset_descriptor.__get__"))) &&
  (dB (PySem.W.takesIn K (.builtin "object.__class__")) && (dB (PySem.W.mroIn K C (.type "object")) && (decide (PySem.W.typeIn K (.ref C) = some (.type "type")) && (PySem.W.clsIn K C).isSome))))
theorem isCB_ok {K : PySem.W.Frag} {C : Addr} (h : isCB K C = true) : IsC K C := by
  unfold isCB dO dB at h
  simp only [Bool.and_eq_true, decide_eq_true_eq] at h
  obtain ⟨h1, h2, h3, h4, h5, h6⟩ := h
  exact ⟨h1, h2, h3, h4, h5, h6⟩
theorem IsC.tyx {K : PySem.W.Frag} {C a dx : Addr} {fs : List (Str × V)} {H : Hp} (c : IsC K C) (cl : Cls K C) (e : H a = some (.ins C dx fs)) : TyX K H (.ref a) (.ref C) := .base (.ins e cl c.ha c.hn c.htk c.hm)
theorem IsC.self {K : PySem.W.Frag} {C : Addr} : PySem.W.kitOne K (.ref C) (.ref C) = some true := by
  unfold PySem.W.kitOne
  rw [beq_self_eq_true, if_pos rfl]
abbrev AlZ : Type := ((Bool × List He.FnW) × List (Option (List (Option (Str × Int))))) × FnI × Bool
def obsZ (fa : List He.Fa) (fn : List DefA) (ts : List He.Tab) (fI : PySem.W.Frag → Addr) (ex : PySem.W.Frag → Bool) (K : PySem.W.Frag) : AlZ :=
  ((((fa.all fun f => f.ok K) && fn.all fun d => d.ok K, fn.map fun d => fnWA K (d.at_ K)), ts.map fun t => He.dicW K (t.1 K)), fnI K (fI K), ex K)
def valZ (fn : List DefA) (ts : List He.Tab) (iv : FnI) (w : World) : AlZ := (((true, fn.map DefA.val), ts.map fun t => some (He.keysIn w.params t.2)), iv, true)
def SaysZ (fa : List He.Fa) (fn : List DefA) (ts : List He.Tab) (fI : PySem.W.Frag → Addr) (iv : FnI) (ex : PySem.W.Frag → Bool) (w : World) (K : PySem.W.Frag) : Prop := obsZ fa fn ts fI ex K = valZ fn ts iv w
section
variable {fa : List He.Fa} {fn : List DefA} {ts : List He.Tab} {fI : PySem.W.Frag → Addr} {iv : FnI} {ex : PySem.W.Frag → Bool} {w : World} {K : PySem.W.Frag}
theorem SaysZ.fact (c : SaysZ fa fn ts fI iv ex w K) (i : Nat) {f : He.Fa} (h : fa[i]? = some f := by rfl) : f.ok K = true := by
  have c1 := (He.ba (show ((fa.all fun f => f.ok K) && fn.all fun d => d.ok K) = true from congrArg (fun z : AlZ => z.1.1.1) c)).1
  exact List.all_eq_true.mp c1 f (List.mem_of_getElem? h)
theorem SaysZ.def_ (c : SaysZ fa fn ts fI iv ex w K) (i : Nat) {d : DefA} (h : fn[i]? = some d := by rfl) : ∃ fd, FunD K d.name d.qual d.params d.body d.scope (d.dvs K) [] (d.at_ K) fd := by
  have c2 := (He.ba (show ((fa.all fun f => f.ok K) && fn.all fun d => d.ok K) = true from congrArg (fun z : AlZ => z.1.1.1) c)).2
  have e : fn.map (fun d => fnWA K (d.at_ K)) = fn.map DefA.val := congrArg (fun z : AlZ => z.1.1.2) c
  have e2 : (fn.map fun d => fnWA K (d.at_ K))[i]? = (fn.map DefA.val)[i]? := by rw [e]
  rw [List.getElem?_map, List.getElem?_map, h] at e2
  exact DefA.funD (Option.some.inj e2) (List.all_eq_true.mp c2 d (List.mem_of_getElem? h))
theorem SaysZ.tab (c : SaysZ fa fn ts fI iv ex w K) (i : Nat) {t : He.Tab} (h : ts[i]? = some t := by rfl) : ∃ es n, KDict K w (t.1 K) es n := by
  have e : ts.map (fun t => He.dicW K (t.1 K)) = ts.map fun t => some (He.keysIn w.params t.2) := congrArg (fun z : AlZ => z.1.2) c
  have e2 : (ts.map fun t => He.dicW K (t.1 K))[i]? = (ts.map fun t => some (He.keysIn w.params t.2))[i]? := by rw [e]
  rw [List.getElem?_map, List.getElem?_map, h] at e2
  exact He.dicW_ok (Option.some.inj e2)
theorem SaysZ.ini (c : SaysZ fa fn ts fI iv ex w K) : fnI K (fI K) = iv := congrArg (fun z : AlZ => z.2.1) c
theorem SaysZ.exB (c : SaysZ fa fn ts fI iv ex w K) : ex K = true := congrArg (fun z : AlZ => z.2.2) c
end
def Has (P : Program) (w : World) (K : PySem.W.Frag) (mg : Str → Option Value) (base : Heap) (CX : CXT) (k : Nat) (f : Addr) (ps : List Str) (sp : Sp) : Prop :=
  ∃ fd, FnOk P w K mg base CX k f fd ps sp ∧ Binds K fd ps [] ∧ PySem.W.keepIn K (.ref f) = true
def HasG (P : Program) (w : World) (K : PySem.W.Frag) (mg : Str → Option Value) (base : Heap) (CX : CXT) (k : Nat) (f : Addr) (ps : List Str) (sp : Sp) : Prop :=
  ∃ fd, FnG P w K mg base CX k f fd ps sp ∧ Binds K fd ps [] ∧ PySem.W.keepIn K (.ref f) = true
end SL
set_option maxHeartbeats 4000000
namespace SK
open PySem PySem.Spec PyProof.Rows L2 SL
abbrev prg : Program := PySem.Challenge.pw_steadylabels_k11_lines_that_tell_no_labe
def top (i : Nat) : Stmt := prg.main.body.getD i (.Pass ⟨0, 0, 0, 0⟩)
abbrev FnM (K : PySem.W.Frag) (x q : Str) (st : Stmt) (dvs : List V) (f : Addr) : Prop := ∃ fd, FunD K x q (defArgs st) (defBody st) (defScope st) dvs [] f fd
def fIn (K : PySem.W.Frag) : Addr := He.ma K (He.ga K "LabelError") "__init__"
abbrev d_is_integer : Stmt := top 16
abbrev d_is_between : Stmt := top 17
abbrev d_is_tuple : Stmt := top 18
abbrev d_is_name : Stmt := top 19
abbrev d_whole_in : Stmt := top 20
abbrev d_signed_in : Stmt := top 21
abbrev d_is_place : Stmt := top 27
abbrev d_is_weight : Stmt := top 28
abbrev d_is_label : Stmt := top 29
abbrev d_order_key : Stmt := top 30
abbrev d_in_order : Stmt := top 31
abbrev d_gap_between : Stmt := top 32
abbrev d_can_stand : Stmt := top 33
abbrev d_first_bad : Stmt := top 34
abbrev d_checked_labels : Stmt := top 38
abbrev d_label_called : Stmt := top 40
abbrev d_label_told : Stmt := top 45
abbrev d_read_labels : Stmt := top 46
abbrev d_are_sizes : Stmt := top 66
abbrev d_class_row : Stmt := top 67
abbrev d_read_style : Stmt := top 69
abbrev d_rank_pair : Stmt := top 70
abbrev d_law_pot : Stmt := top 73
abbrev d_law_take : Stmt := top 74
abbrev d_law_of : Stmt := top 75
abbrev d_law_name : Stmt := top 76
abbrev d_law_sizes : Stmt := top 77
abbrev d_law_classes : Stmt := top 78
abbrev d_law_pairs : Stmt := top 79
abbrev d_law_is_there : Stmt := top 80
abbrev d_law_pixel : Stmt := top 81
abbrev d_law_half : Stmt := top 82
abbrev d_law_distance : Stmt := top 83
abbrev d_law_lore : Stmt := top 84
abbrev d_law_text : Stmt := top 85
abbrev d_law_pair : Stmt := top 86
abbrev d_law_rank : Stmt := top 87
abbrev d_law_box : Stmt := top 88
abbrev d_law_apart : Stmt := top 89
abbrev d_law_is_near : Stmt := top 90
abbrev d_law_step : Stmt := top 91
abbrev d_law_labels : Stmt := top 92
abbrev d_law_number : Stmt := top 93
abbrev d_law_label_of : Stmt := top 94
abbrev d_law_first_wrong : Stmt := top 95
abbrev d_law_spoilt : Stmt := top 96
abbrev d_law_told : Stmt := top 97
abbrev d_law_right : Stmt := top 98
abbrev d_law : Stmt := top 99
abbrev d_Sheet_init : Stmt := inClass (top 39) 0
abbrev d_Sheet_labels : Stmt := inClass (top 39) 2
abbrev d_Sheet_eq : Stmt := inClass (top 39) 3
abbrev d_Sheet_sub : Stmt := inClass (top 39) 12
abbrev d_ClassRow_init : Stmt := inClass (top 65) 0
abbrev d_ClassRow_size_at : Stmt := inClass (top 65) 1
abbrev d_Reader_init : Stmt := inClass (top 68) 0
abbrev d_Reader_pair_of : Stmt := inClass (top 68) 1
abbrev d_Reader_take : Stmt := inClass (top 68) 2
abbrev d_Reader_take_zooms : Stmt := inClass (top 68) 3
abbrev d_Reader_take_class : Stmt := inClass (top 68) 4
abbrev d_Reader_take_beside : Stmt := inClass (top 68) 5
abbrev d_Reader_take_far : Stmt := inClass (top 68) 6
abbrev d_Style_init : Stmt := inClass (top 71) 0
abbrev d_Style_eq : Stmt := inClass (top 71) 1
abbrev d_Style_call : Stmt := inClass (top 71) 3
abbrev d_Style_text : Stmt := inClass (top 71) 4
abbrev d_Style_last : Stmt := inClass (top 71) 5
abbrev d_Style_classes : Stmt := inClass (top 71) 6
abbrev d_Style_check_zoom : Stmt := inClass (top 71) 7
abbrev d_Style_rank_of : Stmt := inClass (top 71) 8
abbrev d_Style_size : Stmt := inClass (top 71) 9
abbrev d_Style_letters : Stmt := inClass (top 71) 10
abbrev d_Style_far : Stmt := inClass (top 71) 12
abbrev d_Style_distance : Stmt := inClass (top 71) 14
structure Top (w : World) (K : PySem.W.Frag) (mg : Str → Option Value) : Prop where
  b_ValueError : mg "ValueError" = none
  b_abs : mg "abs" = none
  b_all : mg "all" = none
  b_any : mg "any" = none
  b_bool : mg "bool" = none
  b_dict : mg "dict" = none
  b_enumerate : mg "enumerate" = none
  b_int : mg "int" = none
  b_isinstance : mg "isinstance" = none
  b_len : mg "len" = none
  b_list : mg "list" = none
  b_max : mg "max" = none
  b_min : mg "min" = none
  b_range : mg "range" = none
  b_repr : mg "repr" = none
  b_set : mg "set" = none
  b_sorted : mg "sorted" = none
  b_str : mg "str" = none
  b_super : mg "super" = none
  b_tuple : mg "tuple" = none
  b_zip : mg "zip" = none
  c_LETTERS : ∃ t, mg "LETTERS" = some (.str "abcdefghijklmnopqrstuvwxyz" t)
  c_FIGURES : ∃ t, mg "FIGURES" = some (.str "0123456789" t)
  c_MOST_LETTERS : ∃ t, mg "MOST_LETTERS" = some (.int 12 t)
  c_MINUS : ∃ t, mg "MINUS" = some (.str "-" t)
  c_ZERO : ∃ t, mg "ZERO" = some (.str "0" t)
  c_LABEL_PARTS : ∃ t, mg "LABEL_PARTS" = some (.int 6 t)
  c_MOST_LABELS : ∃ t, mg "MOST_LABELS" = some (.int 30 t)
  c_MOST_WEIGHT : ∃ t, mg "MOST_WEIGHT" = some (.int 9 t)
  c_MOST_PLACE : ∃ t, mg "MOST_PLACE" = some (.int 99999 t)
  c_LINE_WORDS : ∃ t, mg "LINE_WORDS" = some (.int 6 t)
  c_NUMBERS_AT : ∃ t, mg "NUMBERS_AT" = some (.int 2 t)
  c_MOST_ZOOMS : ∃ t, mg "MOST_ZOOMS" = some (.int 5 t)
  c_MOST_CLASSES : ∃ t, mg "MOST_CLASSES" = some (.int 4 t)
  c_LEAST_SIZE : ∃ t, mg "LEAST_SIZE" = some (.int 2 t)
  c_MOST_SIZE : ∃ t, mg "MOST_SIZE" = some (.int 9 t)
  c_MOST_LEAST : ∃ t, mg "MOST_LEAST" = some (.int 9 t)
  c_MOST_MORE : ∃ t, mg "MOST_MORE" = some (.int 3 t)
  c_MOST_FAR : ∃ t, mg "MOST_FAR" = some (.int 9999 t)
  c_ZOOMS_WORDS : ∃ t, mg "ZOOMS_WORDS" = some (.int 2 t)
  c_CLASS_WORDS : ∃ t, mg "CLASS_WORDS" = some (.int 6 t)
  c_BESIDE_WORDS : ∃ t, mg "BESIDE_WORDS" = some (.int 3 t)
  c_FAR_WORDS : ∃ t, mg "FAR_WORDS" = some (.int 4 t)
  c_SIZES_AT : ∃ t, mg "SIZES_AT" = some (.int 5 t)
  g_is_integer : mg "is_integer" = some (.ref (He.ga K "is_integer"))
  g_is_between : mg "is_between" = some (.ref (He.ga K "is_between"))
  g_is_tuple : mg "is_tuple" = some (.ref (He.ga K "is_tuple"))
  g_is_name : mg "is_name" = some (.ref (He.ga K "is_name"))
  g_whole_in : mg "whole_in" = some (.ref (He.ga K "whole_in"))
  g_signed_in : mg "signed_in" = some (.ref (He.ga K "signed_in"))
  g_is_place : mg "is_place" = some (.ref (He.ga K "is_place"))
  g_is_weight : mg "is_weight" = some (.ref (He.ga K "is_weight"))
  g_is_label : mg "is_label" = some (.ref (He.ga K "is_label"))
  g_order_key : mg "order_key" = some (.ref (He.ga K "order_key"))
  g_in_order : mg "in_order" = some (.ref (He.ga K "in_order"))
  g_gap_between : mg "gap_between" = some (.ref (He.ga K "gap_between"))
  g_can_stand : mg "can_stand" = some (.ref (He.ga K "can_stand"))
  g_first_bad : mg "first_bad" = some (.ref (He.ga K "first_bad"))
  g_checked_labels : mg "checked_labels" = some (.ref (He.ga K "checked_labels"))
  g_label_called : mg "label_called" = some (.ref (He.ga K "label_called"))
  g_label_told : mg "label_told" = some (.ref (He.ga K "label_told"))
  g_read_labels : mg "read_labels" = some (.ref (He.ga K "read_labels"))
  g_are_sizes : mg "are_sizes" = some (.ref (He.ga K "are_sizes"))
  g_class_row : mg "class_row" = some (.ref (He.ga K "class_row"))
  g_read_style : mg "read_style" = some (.ref (He.ga K "read_style"))
  g_rank_pair : mg "rank_pair" = some (.ref (He.ga K "rank_pair"))
  g_law_pot : mg "_law_pot" = some (.ref (He.ga K "_law_pot"))
  g_law_take : mg "_law_take" = some (.ref (He.ga K "_law_take"))
  g_law_of : mg "_law_of" = some (.ref (He.ga K "_law_of"))
  g_law_name : mg "_law_name" = some (.ref (He.ga K "_law_name"))
  g_law_sizes : mg "_law_sizes" = some (.ref (He.ga K "_law_sizes"))
  g_law_classes : mg "_law_classes" = some (.ref (He.ga K "_law_classes"))
  g_law_pairs : mg "_law_pairs" = some (.ref (He.ga K "_law_pairs"))
  g_law_is_there : mg "_law_is_there" = some (.ref (He.ga K "_law_is_there"))
  g_law_pixel : mg "_law_pixel" = some (.ref (He.ga K "_law_pixel"))
  g_law_half : mg "_law_half" = some (.ref (He.ga K "_law_half"))
  g_law_distance : mg "_law_distance" = some (.ref (He.ga K "_law_distance"))
  g_law_lore : mg "_law_lore" = some (.ref (He.ga K "_law_lore"))
  g_law_text : mg "_law_text" = some (.ref (He.ga K "_law_text"))
  g_law_pair : mg "_law_pair" = some (.ref (He.ga K "_law_pair"))
  g_law_rank : mg "_law_rank" = some (.ref (He.ga K "_law_rank"))
  g_law_box : mg "_law_box" = some (.ref (He.ga K "_law_box"))
  g_law_apart : mg "_law_apart" = some (.ref (He.ga K "_law_apart"))
  g_law_is_near : mg "_law_is_near" = some (.ref (He.ga K "_law_is_near"))
  g_law_step : mg "_law_step" = some (.ref (He.ga K "_law_step"))
  g_law_labels : mg "_law_labels" = some (.ref (He.ga K "_law_labels"))
  g_law_number : mg "_law_number" = some (.ref (He.ga K "_law_number"))
  g_law_label_of : mg "_law_label_of" = some (.ref (He.ga K "_law_label_of"))
  g_law_first_wrong : mg "_law_first_wrong" = some (.ref (He.ga K "_law_first_wrong"))
  g_law_spoilt : mg "_law_spoilt" = some (.ref (He.ga K "_law_spoilt"))
  g_law_told : mg "_law_told" = some (.ref (He.ga K "_law_told"))
  g_law_right : mg "_law_right" = some (.ref (He.ga K "_law_right"))
  g_law : mg "law" = some (.ref (He.ga K "law"))
  g_Sheet : mg "Sheet" = some (.ref (He.ga K "Sheet"))
  g_ClassRow : mg "ClassRow" = some (.ref (He.ga K "ClassRow"))
  g_Reader : mg "Reader" = some (.ref (He.ga K "Reader"))
  g_Style : mg "Style" = some (.ref (He.ga K "Style"))
  g_LabelError : mg "LabelError" = some (.ref (He.ga K "LabelError"))
  g_BadStyle : mg "BadStyle" = some (.ref (He.ga K "BadStyle"))
  g_NoClass : mg "NoClass" = some (.ref (He.ga K "NoClass"))
  g_BadZoom : mg "BadZoom" = some (.ref (He.ga K "BadZoom"))
  g_BadLabels : mg "BadLabels" = some (.ref (He.ga K "BadLabels"))
  g_NoLabel : mg "NoLabel" = some (.ref (He.ga K "NoLabel"))
  g_BadLine : mg "BadLine" = some (.ref (He.ga K "BadLine"))
  g_BEHIND : mg "BEHIND" = some (.ref (He.ga K "BEHIND"))
  cl_Sheet : Cls K (He.ga K "Sheet")
  cl_ClassRow : Cls K (He.ga K "ClassRow")
  cl_Reader : Cls K (He.ga K "Reader")
  cl_Style : Cls K (He.ga K "Style")
  mk_Sheet : Mk K (He.ga K "Sheet") (He.ma K (He.ga K "Sheet") "__init__")
  mk_ClassRow : Mk K (He.ga K "ClassRow") (He.ma K (He.ga K "ClassRow") "__init__")
  mk_Reader : Mk K (He.ga K "Reader") (He.ma K (He.ga K "Reader") "__init__")
  mk_Style : Mk K (He.ga K "Style") (He.ma K (He.ga K "Style") "__init__")
  na_Sheet_own_style : NoAttr K (He.ga K "Sheet") "own_style"
  na_Sheet_own_labels : NoAttr K (He.ga K "Sheet") "own_labels"
  na_ClassRow_own_name : NoAttr K (He.ga K "ClassRow") "own_name"
  na_ClassRow_own_first : NoAttr K (He.ga K "ClassRow") "own_first"
  na_ClassRow_own_letters : NoAttr K (He.ga K "ClassRow") "own_letters"
  na_ClassRow_own_sizes : NoAttr K (He.ga K "ClassRow") "own_sizes"
  na_Reader_own_sort : NoAttr K (He.ga K "Reader") "own_sort"
  na_Reader_own_last : NoAttr K (He.ga K "Reader") "own_last"
  na_Reader_own_rows : NoAttr K (He.ga K "Reader") "own_rows"
  na_Reader_own_beside : NoAttr K (He.ga K "Reader") "own_beside"
  na_Reader_own_far : NoAttr K (He.ga K "Reader") "own_far"
  na_Style_own_text : NoAttr K (He.ga K "Style") "own_text"
  na_Style_own_last : NoAttr K (He.ga K "Style") "own_last"
  na_Style_own_rows : NoAttr K (He.ga K "Style") "own_rows"
  na_Style_own_ranks : NoAttr K (He.ga K "Style") "own_ranks"
  na_Style_own_beside : NoAttr K (He.ga K "Style") "own_beside"
  na_Style_own_far : NoAttr K (He.ga K "Style") "own_far"
  m_ClassRow_size_at : Meth K (He.ga K "ClassRow") "size_at" (He.ma K (He.ga K "ClassRow") "size_at")
  m_Reader_pair_of : Meth K (He.ga K "Reader") "pair_of" (He.ma K (He.ga K "Reader") "pair_of")
  m_Reader_take : Meth K (He.ga K "Reader") "take" (He.ma K (He.ga K "Reader") "take")
  m_Reader_take_zooms : Meth K (He.ga K "Reader") "take_zooms" (He.ma K (He.ga K "Reader") "take_zooms")
  m_Reader_take_class : Meth K (He.ga K "Reader") "take_class" (He.ma K (He.ga K "Reader") "take_class")
  m_Reader_take_beside : Meth K (He.ga K "Reader") "take_beside" (He.ma K (He.ga K "Reader") "take_beside")
  m_Reader_take_far : Meth K (He.ga K "Reader") "take_far" (He.ma K (He.ga K "Reader") "take_far")
  m_Style_eq : Meth K (He.ga K "Style") "__eq__" (He.ma K (He.ga K "Style") "__eq__")
  m_Style_check_zoom : Meth K (He.ga K "Style") "check_zoom" (He.ma K (He.ga K "Style") "check_zoom")
  m_Style_rank_of : Meth K (He.ga K "Style") "rank_of" (He.ma K (He.ga K "Style") "rank_of")
  m_Style_distance : Meth K (He.ga K "Style") "distance" (He.ma K (He.ga K "Style") "distance")
  is_Sheet : IsC K (He.ga K "Sheet")
  is_Style : IsC K (He.ga K "Style")
  er_LabelError : ErrC K (He.ga K "LabelError") (fIn K) (He.ga K "LabelError")
  er_BadStyle : ErrC K (He.ga K "LabelError") (fIn K) (He.ga K "BadStyle")
  er_NoClass : ErrC K (He.ga K "LabelError") (fIn K) (He.ga K "NoClass")
  er_BadZoom : ErrC K (He.ga K "LabelError") (fIn K) (He.ga K "BadZoom")
  er_BadLabels : ErrC K (He.ga K "LabelError") (fIn K) (He.ga K "BadLabels")
  er_NoLabel : ErrC K (He.ga K "LabelError") (fIn K) (He.ga K "NoLabel")
  er_BadLine : ErrC K (He.ga K "LabelError") (fIn K) (He.ga K "BadLine")
  F_is_integer : FnM K "is_integer" "is_integer" d_is_integer [] (He.ga K "is_integer")
  F_is_between : FnM K "is_between" "is_between" d_is_between [] (He.ga K "is_between")
  F_is_tuple : FnM K "is_tuple" "is_tuple" d_is_tuple [] (He.ga K "is_tuple")
  F_is_name : FnM K "is_name" "is_name" d_is_name [] (He.ga K "is_name")
  F_whole_in : FnM K "whole_in" "whole_in" d_whole_in [] (He.ga K "whole_in")
  F_signed_in : FnM K "signed_in" "signed_in" d_signed_in [] (He.ga K "signed_in")
  F_is_place : FnM K "is_place" "is_place" d_is_place [] (He.ga K "is_place")
  F_is_weight : FnM K "is_weight" "is_weight" d_is_weight [] (He.ga K "is_weight")
  F_is_label : FnM K "is_label" "is_label" d_is_label [] (He.ga K "is_label")
  F_order_key : FnM K "order_key" "order_key" d_order_key [] (He.ga K "order_key")
  F_in_order : FnM K "in_order" "in_order" d_in_order [] (He.ga K "in_order")
  F_gap_between : FnM K "gap_between" "gap_between" d_gap_between [] (He.ga K "gap_between")
  F_can_stand : FnM K "can_stand" "can_stand" d_can_stand [] (He.ga K "can_stand")
  F_first_bad : FnM K "first_bad" "first_bad" d_first_bad [] (He.ga K "first_bad")
  F_checked_labels : FnM K "checked_labels" "checked_labels" d_checked_labels [] (He.ga K "checked_labels")
  F_label_called : FnM K "label_called" "label_called" d_label_called [] (He.ga K "label_called")
  F_label_told : FnM K "label_told" "label_told" d_label_told [] (He.ga K "label_told")
  F_read_labels : FnM K "read_labels" "read_labels" d_read_labels [] (He.ga K "read_labels")
  F_are_sizes : FnM K "are_sizes" "are_sizes" d_are_sizes [] (He.ga K "are_sizes")
  F_class_row : FnM K "class_row" "class_row" d_class_row [] (He.ga K "class_row")
  F_read_style : FnM K "read_style" "read_style" d_read_style [] (He.ga K "read_style")
  F_rank_pair : FnM K "rank_pair" "rank_pair" d_rank_pair [] (He.ga K "rank_pair")
  F_law_pot : FnM K "_law_pot" "_law_pot" d_law_pot [] (He.ga K "_law_pot")
  F_law_take : FnM K "_law_take" "_law_take" d_law_take [] (He.ga K "_law_take")
  F_law_of : FnM K "_law_of" "_law_of" d_law_of [] (He.ga K "_law_of")
  F_law_name : FnM K "_law_name" "_law_name" d_law_name [] (He.ga K "_law_name")
  F_law_sizes : FnM K "_law_sizes" "_law_sizes" d_law_sizes [] (He.ga K "_law_sizes")
  F_law_classes : FnM K "_law_classes" "_law_classes" d_law_classes [] (He.ga K "_law_classes")
  F_law_pairs : FnM K "_law_pairs" "_law_pairs" d_law_pairs [] (He.ga K "_law_pairs")
  F_law_is_there : FnM K "_law_is_there" "_law_is_there" d_law_is_there [] (He.ga K "_law_is_there")
  F_law_pixel : FnM K "_law_pixel" "_law_pixel" d_law_pixel [] (He.ga K "_law_pixel")
  F_law_half : FnM K "_law_half" "_law_half" d_law_half [] (He.ga K "_law_half")
  F_law_distance : FnM K "_law_distance" "_law_distance" d_law_distance [] (He.ga K "_law_distance")
  F_law_lore : FnM K "_law_lore" "_law_lore" d_law_lore [] (He.ga K "_law_lore")
  F_law_text : FnM K "_law_text" "_law_text" d_law_text [] (He.ga K "_law_text")
  F_law_pair : FnM K "_law_pair" "_law_pair" d_law_pair [] (He.ga K "_law_pair")
  F_law_rank : FnM K "_law_rank" "_law_rank" d_law_rank [] (He.ga K "_law_rank")
  F_law_box : FnM K "_law_box" "_law_box" d_law_box [] (He.ga K "_law_box")
  F_law_apart : FnM K "_law_apart" "_law_apart" d_law_apart [] (He.ga K "_law_apart")
  F_law_is_near : FnM K "_law_is_near" "_law_is_near" d_law_is_near [] (He.ga K "_law_is_near")
  F_law_step : FnM K "_law_step" "_law_step" d_law_step [] (He.ga K "_law_step")
  F_law_labels : FnM K "_law_labels" "_law_labels" d_law_labels [] (He.ga K "_law_labels")
  F_law_number : FnM K "_law_number" "_law_number" d_law_number [] (He.ga K "_law_number")
  F_law_label_of : FnM K "_law_label_of" "_law_label_of" d_law_label_of [] (He.ga K "_law_label_of")
  F_law_first_wrong : FnM K "_law_first_wrong" "_law_first_wrong" d_law_first_wrong [] (He.ga K "_law_first_wrong")
  F_law_spoilt : FnM K "_law_spoilt" "_law_spoilt" d_law_spoilt [] (He.ga K "_law_spoilt")
  F_law_told : FnM K "_law_told" "_law_told" d_law_told [] (He.ga K "_law_told")
  F_law_right : FnM K "_law_right" "_law_right" d_law_right [] (He.ga K "_law_right")
  F_law : FnM K "law" "law" d_law [] (He.ga K "law")
  F_Sheet_init : FnM K "__init__" "Sheet.__init__" d_Sheet_init [] (He.ma K (He.ga K "Sheet") "__init__")
  F_Sheet_labels : FnM K "labels" "Sheet.labels" d_Sheet_labels [] (pga K (He.ma K (He.ga K "Sheet") "labels"))
  F_Sheet_eq : FnM K "__eq__" "Sheet.__eq__" d_Sheet_eq [] (He.ma K (He.ga K "Sheet") "__eq__")
  F_Sheet_sub : FnM K "__sub__" "Sheet.__sub__" d_Sheet_sub [] (He.ma K (He.ga K "Sheet") "__sub__")
  F_ClassRow_init : FnM K "__init__" "ClassRow.__init__" d_ClassRow_init [] (He.ma K (He.ga K "ClassRow") "__init__")
  F_ClassRow_size_at : FnM K "size_at" "ClassRow.size_at" d_ClassRow_size_at [] (He.ma K (He.ga K "ClassRow") "size_at")
  F_Reader_init : FnM K "__init__" "Reader.__init__" d_Reader_init [] (He.ma K (He.ga K "Reader") "__init__")
  F_Reader_pair_of : FnM K "pair_of" "Reader.pair_of" d_Reader_pair_of [] (He.ma K (He.ga K "Reader") "pair_of")
  F_Reader_take : FnM K "take" "Reader.take" d_Reader_take [] (He.ma K (He.ga K "Reader") "take")
  F_Reader_take_zooms : FnM K "take_zooms" "Reader.take_zooms" d_Reader_take_zooms [] (He.ma K (He.ga K "Reader") "take_zooms")
  F_Reader_take_class : FnM K "take_class" "Reader.take_class" d_Reader_take_class [] (He.ma K (He.ga K "Reader") "take_class")
  F_Reader_take_beside : FnM K "take_beside" "Reader.take_beside" d_Reader_take_beside [] (He.ma K (He.ga K "Reader") "take_beside")
  F_Reader_take_far : FnM K "take_far" "Reader.take_far" d_Reader_take_far [] (He.ma K (He.ga K "Reader") "take_far")
  F_Style_init : FnM K "__init__" "Style.__init__" d_Style_init [] (He.ma K (He.ga K "Style") "__init__")
  F_Style_eq : FnM K "__eq__" "Style.__eq__" d_Style_eq [] (He.ma K (He.ga K "Style") "__eq__")
  F_Style_call : FnM K "__call__" "Style.__call__" d_Style_call [] (He.ma K (He.ga K "Style") "__call__")
  F_Style_text : FnM K "text" "Style.text" d_Style_text [] (pga K (He.ma K (He.ga K "Style") "text"))
  F_Style_last : FnM K "last" "Style.last" d_Style_last [] (pga K (He.ma K (He.ga K "Style") "last"))
  F_Style_classes : FnM K "classes" "Style.classes" d_Style_classes [] (pga K (He.ma K (He.ga K "Style") "classes"))
  F_Style_check_zoom : FnM K "check_zoom" "Style.check_zoom" d_Style_check_zoom [] (He.ma K (He.ga K "Style") "check_zoom")
  F_Style_rank_of : FnM K "rank_of" "Style.rank_of" d_Style_rank_of [] (He.ma K (He.ga K "Style") "rank_of")
  F_Style_size : FnM K "size" "Style.size" d_Style_size [] (He.ma K (He.ga K "Style") "size")
  F_Style_letters : FnM K "letters" "Style.letters" d_Style_letters [] (He.ma K (He.ga K "Style") "letters")
  F_Style_far : FnM K "far" "Style.far" d_Style_far [] (He.ma K (He.ga K "Style") "far")
  F_Style_distance : FnM K "distance" "Style.distance" d_Style_distance [] (He.ma K (He.ga K "Style") "distance")
  ini : ∃ fd, IniT prg K (He.ga K "LabelError") (fIn K) fd ∧ fd.defaults = .none
  t_BEHIND : ∃ es n, KDict K w (He.ga K "BEHIND") es n
  t_BEHIND_0 : ∃ u v, PySem.W.nsIn K (He.ga K "BEHIND") "" = some (some u) ∧ RelV (.ref v) u ∧ ∀ H, SqT K H v ((["zooms"] : List Str).map V.str)
  t_BEHIND_1 : ∃ u v, PySem.W.nsIn K (He.ga K "BEHIND") "zooms" = some (some u) ∧ RelV (.ref v) u ∧ ∀ H, SqT K H v ((["class"] : List Str).map V.str)
  t_BEHIND_2 : ∃ u v, PySem.W.nsIn K (He.ga K "BEHIND") "class" = some (some u) ∧ RelV (.ref v) u ∧ ∀ H, SqT K H v ((["class", "beside", "far"] : List Str).map V.str)
  t_BEHIND_3 : ∃ u v, PySem.W.nsIn K (He.ga K "BEHIND") "beside" = some (some u) ∧ RelV (.ref v) u ∧ ∀ H, SqT K H v ((["beside", "far"] : List Str).map V.str)
  t_BEHIND_4 : ∃ u v, PySem.W.nsIn K (He.ga K "BEHIND") "far" = some (some u) ∧ RelV (.ref v) u ∧ ∀ H, SqT K H v ((["far"] : List Str).map V.str)
end SK
set_option maxHeartbeats 4000000
namespace SL
open PySem PySem.Spec PyProof.Rows L2
def strOfV : Value → Option Str
  | .str x _ => some x
  | _ => none
def strsB (K : PySem.W.Frag) (a : Addr) (key : Str) (zs : List Str) : Bool := match PySem.W.nsIn K a key with
  | some (some (.ref v)) => (match K.lookup v with
    | some ⟨.type c, _, .seq its _, _⟩ => decide (c = "tuple") && (decide (its.toList.map strOfV = zs.map some) && decide (its.size ≤ 1000))
    | _ => false)
  | _ => false
theorem vals_strs : ∀ {us : List Value} {zs : List Str}, us.map strOfV = zs.map some → Vals (zs.map V.str) us
  | [], [], _ => .nil
  | [], _ :: _, h => by cases h
  | _ :: _, [], h => by cases h
  | u :: us, z :: zs, h => by
    rw [List.map_cons, List.map_cons] at h
    obtain ⟨h1, h2⟩ := List.cons.inj h
    refine .cons ?_ (vals_strs h2)
    cases u <;> first | cases h1 | skip
    exact ⟨_, rfl⟩
theorem strsB_ok {K : PySem.W.Frag} {a : Addr} {key : Str} {zs : List Str} (h : strsB K a key zs = true) : ∃ u v, PySem.W.nsIn K a key = some (some u) ∧ RelV (.ref v) u ∧ ∀ H, SqT K H v (zs.map V.str) := by
  unfold strsB at h
  split at h
  · rename_i v hv
    split at h
    · rename_i c dd its n sl hl
      simp only [Bool.and_eq_true, decide_eq_true_eq] at h
      obtain ⟨rfl, h2, h3⟩ := h
      exact ⟨_, v, hv, rfl, fun H => .inr ⟨_, its, n, hl, rfl, rfl, Nat.le_trans h3 (by decide), vals_strs h2⟩⟩
    · cases h
  · cases h
end SL
set_option maxHeartbeats 4000000
namespace SL
open PySem PySem.Spec PyProof.Rows L2
section
variable {α : Type}
def foV (v : Value) (k : Value → α) : α := match v with
  | .ref a => HandSHeadRun.frNat a fun a => k (.ref a)
  | v => k v
theorem foV_eq (v : Value) (k : Value → α) : foV v k = k v := by
  cases v with
  | ref a => exact HandSHeadRun.frNat_eq a fun a => k (.ref a)
  | _ => rfl
def foVs : List Value → (List Value → α) → α
  | [], k => k []
  | v :: r, k => foV v fun v => foVs r fun r => k (v :: r)
theorem foVs_eq : ∀ (l : List Value) (k : List Value → α), foVs l k = k l
  | [], _ => rfl
  | v :: r, k => by
    unfold foVs
    rw [foV_eq, foVs_eq r]
def foE (e : DictEntry) (k : DictEntry → α) : α := match e with
  | ⟨h, x, v⟩ => foV x fun x => foV v fun v => k ⟨h, x, v⟩
theorem foE_eq (e : DictEntry) (k : DictEntry → α) : foE e k = k e := by
  obtain ⟨h, x, v⟩ := e
  show foV x (fun x => foV v fun v => k ⟨h, x, v⟩) = _
  rw [foV_eq, foV_eq]
def foEs : List DictEntry → (List DictEntry → α) → α
  | [], k => k []
  | v :: r, k => foE v fun v => foEs r fun r => k (v :: r)
theorem foEs_eq : ∀ (l : List DictEntry) (k : List DictEntry → α), foEs l k = k l
  | [], _ => rfl
  | v :: r, k => by
    unfold foEs
    rw [foE_eq, foEs_eq r]
def foD (d : Data) (k : Data → α) : α := match d with
  | .dict es n => foEs es.toList fun l => k (.dict l.toArray n)
  | .seq es n => foVs es.toList fun l => k (.seq l.toArray n)
  | .fields es => foVs es.toList fun l => k (.fields l.toArray)
  | .func ⟨f1, f2, f3, f4, f5, f6, f7, f8, f9, f10, f11, f12, f13, f14, f15⟩ => foV f13 fun f13 => k (.func ⟨f1, f2, f3, f4, f5, f6, f7, f8, f9, f10, f11, f12, f13, f14, f15⟩)
  | d => k d
theorem foD_eq (d : Data) (k : Data → α) : foD d k = k d := by
  cases d with
  | dict es n =>
    show foEs es.toList (fun l => k (.dict l.toArray n)) = _
    rw [foEs_eq, Array.toArray_toList]
  | seq es n =>
    show foVs es.toList (fun l => k (.seq l.toArray n)) = _
    rw [foVs_eq, Array.toArray_toList]
  | fields es =>
    show foVs es.toList (fun l => k (.fields l.toArray)) = _
    rw [foVs_eq, Array.toArray_toList]
  | func f =>
    obtain ⟨f1, f2, f3, f4, f5, f6, f7, f8, f9, f10, f11, f12, f13, f14, f15⟩ := f
    exact foV_eq f13 fun f13 => k (.func ⟨f1, f2, f3, f4, f5, f6, f7, f8, f9, f10, f11, f12, f13, f14, f15⟩)
  | _ => rfl
def foO (o : Obj) (k : Obj → α) : α := match o with
  | ⟨c, d, dt, sl⟩ => foV c fun c => foD dt fun dt => k ⟨c, d, dt, sl⟩
theorem foO_eq (o : Obj) (k : Obj → α) : foO o k = k o := by
  obtain ⟨c, d, dt, sl⟩ := o
  show foV c (fun c => foD dt fun dt => k ⟨c, d, dt, sl⟩) = _
  rw [foV_eq, foD_eq]
def foNs : List Nat → (List Nat → α) → α
  | [], k => k []
  | a :: r, k => HandSHeadRun.frNat a fun a => foNs r fun r => k (a :: r)
theorem foNs_eq : ∀ (l : List Nat) (k : List Nat → α), foNs l k = k l
  | [], _ => rfl
  | v :: r, k => by
    unfold foNs
    rw [HandSHeadRun.frNat_eq, foNs_eq r]
def reach (g : Addr → Option Obj) (k : PySem.W.Frag → α) : Nat → List Addr → Nat → PySem.W.Frag → α
  | 0, _, _, K => k K
  | _ + 1, [], _, K => k K
  | n + 1, a :: todo, m, K => HandSHeadRun.frNat a fun a => match Nat.beq (Nat.land (Nat.shiftRight m a) 1) 1 with
    | true => reach g k n todo m K
    | false => match g a with
      | none => reach g k n todo m K
      | some o => foO o fun o => foNs (He.refsD o) fun rs => HandSHeadRun.frNat (Nat.lor m (Nat.shiftLeft 1 a)) fun m => reach g k n (rs ++ todo) m ((a, o) :: K)
theorem reach_ex (g : Addr → Option Obj) (k : PySem.W.Frag → α) : ∀ (n : Nat) (todo : List Addr) (m : Nat) (K : PySem.W.Frag), (∀ q ∈ K, g q.1 = some q.2) → ∃ K' : PySem.W.Frag, (∀ q ∈ K', g q.1 = some q.2) ∧ reach g k n todo m K = k K'
  | 0, _, _, K, h => ⟨K, h, rfl⟩
  | _ + 1, [], _, K, h => ⟨K, h, rfl⟩
  | n + 1, a :: todo, m, K, h => by
    unfold reach
    rw [HandSHeadRun.frNat_eq]
    cases Nat.beq (Nat.land (Nat.shiftRight m a) 1) 1 with
    | true => exact reach_ex g k n todo m K h
    | false =>
      dsimp only
      cases e : g a with
      | none => exact reach_ex g k n todo m K h
      | some o =>
        dsimp only
        rw [foO_eq, foNs_eq, HandSHeadRun.frNat_eq]
        refine reach_ex g k n _ _ ((a, o) :: K) fun q hq => ?_
        rcases List.mem_cons.mp hq with z | z
        · rw [z]
          exact e
        · exact h q z
end
def seeds : List Addr := [mainGlobals, cStatics, sysModules]
def revC {α : Type} (k : PySem.W.Frag → α) : PySem.W.Frag → PySem.W.Frag → α
  | [], K => k K
  | p :: r, K => revC k r (p :: K)
theorem revC_ex {α : Type} (g : Addr → Option Obj) (k : PySem.W.Frag → α) : ∀ (l K : PySem.W.Frag), (∀ q ∈ l, g q.1 = some q.2) → (∀ q ∈ K, g q.1 = some q.2) → ∃ K' : PySem.W.Frag, (∀ q ∈ K', g q.1 = some q.2) ∧ revC k l K = k K'
  | [], K, _, h => ⟨K, h, rfl⟩
  | p :: r, K, h0, h => by
    unfold revC
    exact revC_ex g k r (p :: K) (fun q hq => h0 q (List.mem_cons_of_mem _ hq)) fun q hq => (List.mem_cons.mp hq).elim (fun z => by rw [z]; exact h0 p List.mem_cons_self) (h q)
def withK {α : Type} (n : Nat) (g : Addr → Option Obj) (k : PySem.W.Frag → α) : α := reach g (fun K => revC k K []) n seeds 0 []
theorem look_in {a : Addr} {o : Obj} : ∀ {l : List (Addr × Obj)}, l.lookup a = some o → (a, o) ∈ l
  | [], h => by cases h
  | (b, u) :: l, h => by
    rw [List.lookup_cons] at h
    cases e : a == b with
    | true =>
      rw [e] at h
      cases h
      rw [beq_iff_eq.mp e]
      exact List.mem_cons_self
    | false =>
      rw [e] at h
      exact List.mem_cons_of_mem _ (look_in h)
theorem frag_in {K : PySem.W.Frag} {h : Heap} (q : ∀ p ∈ K, h.get? p.1 = some p.2) : K.In h := fun a o e => by
  have := q (a, o) (look_in e)
  exact this
def hookY (n : Nat) (fa : List He.Fa) (fn : List DefA) (ts : List He.Tab) (fI : PySem.W.Frag → Addr) (iv : FnI) (ex : PySem.W.Frag → Bool) : PySem.W.Hook where
  α := AlZ
  obs := fun s => withK n s.heap.get? fun K => obsZ fa fn ts fI ex K
  val := fun w => valZ fn ts iv w
  says := fun w h => ∃ K : PySem.W.Frag, K.In h ∧ SaysZ fa fn ts fI iv ex w K
  of := fun w s e => by
    obtain ⟨K0, h0, e0⟩ := reach_ex s.heap.get? (fun K => revC (fun K => obsZ fa fn ts fI ex K) K []) n seeds 0 [] (fun q hq => absurd hq (by simp))
    obtain ⟨K, hK, e2⟩ := revC_ex s.heap.get? (fun K => obsZ fa fn ts fI ex K) K0 [] h0 (fun q hq => absurd hq (by simp))
    exact ⟨K, frag_in hK, (e0.trans e2).symm.trans e⟩
  keeps := fun _ _ _ ⟨K, hK, c⟩ k => ⟨K, PySem.W.Frag.In.keeps hK k, c⟩
theorem obsY_eq {n : Nat} {fa : List He.Fa} {fn : List DefA} {ts : List He.Tab} {fI : PySem.W.Frag → Addr} {iv : FnI} {ex : PySem.W.Frag → Bool} {g : Addr → Option Obj} {s : Shared} (h : ∀ a, g a = s.heap.get? a) :
    (withK n g fun K => obsZ fa fn ts fI ex K) = (hookY n fa fn ts fI iv ex).obs s := by
  have e : g = s.heap.get? := funext h
  rw [e] <;> rfl
end SL
namespace SL
open PySem PySem.W PySem.Calls PyProof.Rows HandSHeadRun
def RunA (r : OpenRow) (q : Program) (M : Nat) (loose : List PySem.Str) (w : World) : Prop :=
  ∀ os : OsState, (endF (stepQ (denQ tabQ) r.prog w) M r.prog w os).map (fun s => (looksF r.prog (boot_heap w.params) s.abs, seenQ q loose (importedModules r.prog.main.body) (fun s => xlAt q [] s && recOk r.toRowW.records s) s.abs)) = some (true, openGood q loose)
def RunB (r : OpenRow) (H : Hook) (ob : SharedT → H.α) (M : Nat) (w : World) : Prop :=
  ∀ os : OsState, (endF (stepQ (denQ tabQ) r.prog w) M r.prog w os).map ob = some (H.val w)
theorem cut3 {S A B C : Type} {x : Option S} {f : S → A} {g : S → B} {h : S → C} {a : A} {b : B} {c : C} (h1 : x.map (fun s => (f s, g s)) = some (a, b)) (h2 : x.map h = some c) : x.map (fun s => (f s, g s, h s)) = some (a, b, c) := by
  cases x with
  | none => cases h1
  | some s =>
    have e1 := Option.some.inj h1
    have e2 := Option.some.inj h2
    obtain ⟨e3, e4⟩ := Prod.mk.inj e1
    exact congrArg some (Prod.ext e3 (Prod.ext e4 e2))
theorem run_of {r : OpenRow} {q : Program} {H : Hook} {ob : SharedT → H.α} {M : Nat} {loose : List PySem.Str} {w : World} (a : RunA r q M loose w) (b : RunB r H ob M w) : RunEq r q H ob M loose w := fun os => cut3 (a os) (b os)
section
open L2
theorem reach_un (g : Addr → Option Obj) : ∀ (n : Nat) (todo : List Addr) (m : Nat) (K : PySem.W.Frag), ∃ K' : PySem.W.Frag, ∀ {α : Type} (k : PySem.W.Frag → α), reach g k n todo m K = k K'
  | 0, _, _, K => ⟨K, fun _ => rfl⟩
  | _ + 1, [], _, K => ⟨K, fun _ => rfl⟩
  | n + 1, a :: todo, m, K => by
    cases e0 : Nat.beq (Nat.land (Nat.shiftRight m a) 1) 1 with
    | true =>
      obtain ⟨K', h⟩ := reach_un g n todo m K
      refine ⟨K', fun k => ?_⟩
      unfold reach
      rw [HandSHeadRun.frNat_eq, e0]
      exact h k
    | false =>
      cases e : g a with
      | none =>
        obtain ⟨K', h⟩ := reach_un g n todo m K
        refine ⟨K', fun k => ?_⟩
        unfold reach
        rw [HandSHeadRun.frNat_eq, e0]
        dsimp only
        rw [e]
        exact h k
      | some o =>
        obtain ⟨K', h⟩ := reach_un g n (He.refsD o ++ todo) (Nat.lor m (Nat.shiftLeft 1 a)) ((a, o) :: K)
        refine ⟨K', fun k => ?_⟩
        unfold reach
        rw [HandSHeadRun.frNat_eq, e0]
        dsimp only
        rw [e]
        dsimp only
        rw [foO_eq, foNs_eq, HandSHeadRun.frNat_eq]
        exact h k
theorem revC_un : ∀ (l K : PySem.W.Frag), ∃ K' : PySem.W.Frag, ∀ {α : Type} (k : PySem.W.Frag → α), revC k l K = k K'
  | [], K => ⟨K, fun _ => rfl⟩
  | p :: r, K => by
    obtain ⟨K', h⟩ := revC_un r (p :: K)
    exact ⟨K', fun k => by unfold revC; exact h k⟩
theorem withK_un (n : Nat) (g : Addr → Option Obj) : ∃ K' : PySem.W.Frag, ∀ {α : Type} (k : PySem.W.Frag → α), withK n g k = k K' := by
  obtain ⟨K1, h1⟩ := reach_un g n seeds 0 []
  obtain ⟨K2, h2⟩ := revC_un K1 []
  refine ⟨K2, fun k => ?_⟩
  unfold withK
  rw [h1]
  exact h2 k
abbrev obsP (fa : List He.Fa) (fn : List DefA) (ts : List He.Tab) (fI : PySem.W.Frag → Addr) (xs : List (PySem.W.Frag → Bool)) (K : PySem.W.Frag) : AlZ := obsZ fa fn ts fI (fun K => xs.all fun f => f K) K
theorem obsP_fn {fa : List He.Fa} {fn fm : List DefA} {ts : List He.Tab} {fI : PySem.W.Frag → Addr} {iv : FnI} {xs : List (PySem.W.Frag → Bool)} {K : PySem.W.Frag} {w : World} (h1 : obsP fa fn ts fI xs K = valZ fn ts iv w) (h2 : obsP [] fm [] fI [] K = valZ fm [] iv w) :
    obsP fa (fn ++ fm) ts fI xs K = valZ (fn ++ fm) ts iv w := by
  have a1 : ((fa.all fun f => f.ok K) && fn.all fun d => d.ok K) = true := congrArg (fun z : AlZ => z.1.1.1) h1
  have a2 : fn.map (fun d => fnWA K (d.at_ K)) = fn.map DefA.val := congrArg (fun z : AlZ => z.1.1.2) h1
  have a3 : ts.map (fun t => He.dicW K (t.1 K)) = ts.map fun t => some (He.keysIn w.params t.2) := congrArg (fun z : AlZ => z.1.2) h1
  have a4 : fnI K (fI K) = iv := congrArg (fun z : AlZ => z.2.1) h1
  have a5 : (xs.all fun f => f K) = true := congrArg (fun z : AlZ => z.2.2) h1
  have b1 : ((([] : List He.Fa).all fun f => f.ok K) && fm.all fun d => d.ok K) = true := congrArg (fun z : AlZ => z.1.1.1) h2
  have b2 : fm.map (fun d => fnWA K (d.at_ K)) = fm.map DefA.val := congrArg (fun z : AlZ => z.1.1.2) h2
  show ((((fa.all fun f => f.ok K) && (fn ++ fm).all fun d => d.ok K, (fn ++ fm).map fun d => fnWA K (d.at_ K)), ts.map fun t => He.dicW K (t.1 K)), fnI K (fI K), xs.all fun f => f K) = (((true, (fn ++ fm).map DefA.val), ts.map fun t => some (He.keysIn w.params t.2)), iv, true)
  obtain ⟨a11, a12⟩ := He.ba a1
  obtain ⟨_, b12⟩ := He.ba b1
  rw [List.all_append, List.map_append, List.map_append, a11, a12, b12, a2, b2, a3, a4, a5]
  rfl
def RunP (r : OpenRow) (M n : Nat) (fa : List He.Fa) (fn : List DefA) (ts : List He.Tab) (fI : PySem.W.Frag → Addr) (iv : FnI) (xs : List (PySem.W.Frag → Bool)) (w : World) : Prop :=
  ∀ os : OsState, (endF (stepQ (denQ tabQ) r.prog w) M r.prog w os).map (fun s => withK n (getT s) fun K => obsP fa fn ts fI xs K) = some (valZ fn ts iv w)
theorem RunP.fn {r : OpenRow} {M n : Nat} {fa : List He.Fa} {fn fm : List DefA} {ts : List He.Tab} {fI : PySem.W.Frag → Addr} {iv : FnI} {xs : List (PySem.W.Frag → Bool)} {w : World} (a : RunP r M n fa fn ts fI iv xs w) (b : RunP r M n [] fm [] fI iv [] w) : RunP r M n fa (fn ++ fm) ts fI iv xs w := fun os => by
  have h1 := a os
  have h2 := b os
  cases e : endF (stepQ (denQ tabQ) r.prog w) M r.prog w os with
  | none =>
    rw [e] at h1
    cases h1
  | some s =>
    rw [e] at h1 h2
    obtain ⟨K, hK⟩ := withK_un n (getT s)
    have c1 := Option.some.inj h1
    have c2 := Option.some.inj h2
    have c1 : (withK n (getT s) fun K => obsP fa fn ts fI xs K) = valZ fn ts iv w := c1
    have c2 : (withK n (getT s) fun K => obsP [] fm [] fI [] K) = valZ fm [] iv w := c2
    rw [hK] at c1 c2
    show some (withK n (getT s) fun K => obsP fa (fn ++ fm) ts fI xs K) = _
    rw [hK, obsP_fn c1 c2]
theorem obsP_fa {fa fb : List He.Fa} {fn : List DefA} {ts : List He.Tab} {fI : PySem.W.Frag → Addr} {iv : FnI} {xs ys : List (PySem.W.Frag → Bool)} {K : PySem.W.Frag} {w : World} (h1 : obsP fa fn ts fI xs K = valZ fn ts iv w) (h2 : obsP fb [] [] fI ys K = valZ [] [] iv w) :
    obsP (fa ++ fb) fn ts fI (xs ++ ys) K = valZ fn ts iv w := by
  have h1 : ((((fa.all fun f => f.ok K) && fn.all fun d => d.ok K, fn.map fun d => fnWA K (d.at_ K)), ts.map fun t => He.dicW K (t.1 K)), fnI K (fI K), xs.all fun f => f K) = (((true, fn.map DefA.val), ts.map fun t => some (He.keysIn w.params t.2)), iv, true) := h1
  have h2 : ((((fb.all fun f => f.ok K) && ([] : List DefA).all fun d => d.ok K, ([] : List DefA).map fun d => fnWA K (d.at_ K)), ([] : List He.Tab).map fun t => He.dicW K (t.1 K)), fnI K (fI K), ys.all fun f => f K) = (((true, ([] : List DefA).map DefA.val), ([] : List He.Tab).map fun t => some (He.keysIn w.params t.2)), iv, true) := h2
  rw [Prod.mk.injEq, Prod.mk.injEq, Prod.mk.injEq, Prod.mk.injEq, Bool.and_eq_true] at h1 h2
  show ((((((fa ++ fb).all fun f => f.ok K) && fn.all fun d => d.ok K, fn.map fun d => fnWA K (d.at_ K)), ts.map fun t => He.dicW K (t.1 K)), fnI K (fI K), (xs ++ ys).all fun f => f K) : AlZ) = (((true, fn.map DefA.val), ts.map fun t => some (He.keysIn w.params t.2)), iv, true)
  obtain ⟨⟨⟨⟨a1, a2⟩, a3⟩, a4⟩, a5, a6⟩ := h1
  obtain ⟨⟨⟨⟨b1, b2⟩, b3⟩, b4⟩, b5, b6⟩ := h2
  rw [List.all_append, a1, b1, a2, a3, a4, a5, List.all_append, a6, b6]
  rfl
theorem RunP.fa {r : OpenRow} {M n : Nat} {fa fb : List He.Fa} {fn : List DefA} {ts : List He.Tab} {fI : PySem.W.Frag → Addr} {iv : FnI} {xs ys : List (PySem.W.Frag → Bool)} {w : World} (a : RunP r M n fa fn ts fI iv xs w) (b : RunP r M n fb [] [] fI iv ys w) : RunP r M n (fa ++ fb) fn ts fI iv (xs ++ ys) w := fun os => by
  have h1 := a os
  have h2 := b os
  cases e : endF (stepQ (denQ tabQ) r.prog w) M r.prog w os with
  | none =>
    rw [e] at h1
    cases h1
  | some s =>
    rw [e] at h1 h2
    obtain ⟨K, hK⟩ := withK_un n (getT s)
    have c1 := Option.some.inj h1
    have c2 := Option.some.inj h2
    have c1 : (withK n (getT s) fun K => obsP fa fn ts fI xs K) = valZ fn ts iv w := c1
    have c2 : (withK n (getT s) fun K => obsP fb [] [] fI ys K) = valZ [] [] iv w := c2
    rw [hK] at c1 c2
    show some (withK n (getT s) fun K => obsP (fa ++ fb) fn ts fI (xs ++ ys) K) = _
    rw [hK, obsP_fa c1 c2]
end
end SL
set_option maxHeartbeats 0
namespace SK
open PySem PySem.Spec PyProof.Rows L2 SL
def fa0 : List He.Fa := ([.free "ValueError", .free "abs", .free "all", .free "any", .free "bool", .free "dict", .free "enumerate", .free "int", .free "isinstance", .free "len", .free "list", .free "max", .free "min", .free "range", .free "repr"] : List He.Fa) ++
  ([.free "set", .free "sorted", .free "str", .free "super", .free "tuple", .free "zip", .str "LETTERS" "abcdefghijklmnopqrstuvwxyz", .str "FIGURES" "0123456789", .int "MOST_LETTERS" 12, .str "MINUS" "-", .str "ZERO" "0", .int "LABEL_PARTS" 6, .int "MOST_LABELS" 30, .int "MOST_WEIGHT" 9, .int "MOST_PLACE" 99999] : List He.Fa) ++
  ([.int "LINE_WORDS" 6, .int "NUMBERS_AT" 2, .int "MOST_ZOOMS" 5, .int "MOST_CLASSES" 4, .int "LEAST_SIZE" 2, .int "MOST_SIZE" 9, .int "MOST_LEAST" 9, .int "MOST_MORE" 3, .int "MOST_FAR" 9999, .int "ZOOMS_WORDS" 2, .int "CLASS_WORDS" 6, .int "BESIDE_WORDS" 3, .int "FAR_WORDS" 4, .int "SIZES_AT" 5, .glo "is_integer"] : List He.Fa) ++
  ([.glo "is_between", .glo "is_tuple", .glo "is_name", .glo "whole_in", .glo "signed_in", .glo "is_place", .glo "is_weight", .glo "is_label", .glo "order_key", .glo "in_order", .glo "gap_between", .glo "can_stand", .glo "first_bad", .glo "checked_labels", .glo "label_called"] : List He.Fa) ++
  ([.glo "label_told", .glo "read_labels", .glo "are_sizes", .glo "class_row", .glo "read_style", .glo "rank_pair", .glo "_law_pot", .glo "_law_take", .glo "_law_of", .glo "_law_name", .glo "_law_sizes", .glo "_law_classes", .glo "_law_pairs", .glo "_law_is_there", .glo "_law_pixel"] : List He.Fa) ++
  ([.glo "_law_half", .glo "_law_distance", .glo "_law_lore", .glo "_law_text", .glo "_law_pair", .glo "_law_rank", .glo "_law_box", .glo "_law_apart", .glo "_law_is_near", .glo "_law_step", .glo "_law_labels", .glo "_law_number", .glo "_law_label_of", .glo "_law_first_wrong", .glo "_law_spoilt"] : List He.Fa) ++
  ([.glo "_law_told", .glo "_law_right", .glo "law", .glo "Sheet", .glo "ClassRow", .glo "Reader", .glo "Style", .glo "LabelError", .glo "BadStyle", .glo "NoClass", .glo "BadZoom", .glo "BadLabels", .glo "NoLabel", .glo "BadLine", .glo "BEHIND"] : List He.Fa) ++
  ([.cls "Sheet", .cls "ClassRow", .cls "Reader", .cls "Style", .mkr "Sheet", .mkr "ClassRow", .mkr "Reader", .mkr "Style", .noat "Sheet" "own_style", .noat "Sheet" "own_labels", .noat "ClassRow" "own_name", .noat "ClassRow" "own_first", .noat "ClassRow" "own_letters", .noat "ClassRow" "own_sizes", .noat "Reader" "own_sort"] : List He.Fa)
def fa1 : List He.Fa := ([.noat "Reader" "own_last", .noat "Reader" "own_rows", .noat "Reader" "own_beside", .noat "Reader" "own_far", .noat "Style" "own_text", .noat "Style" "own_last", .noat "Style" "own_rows", .noat "Style" "own_ranks", .noat "Style" "own_beside", .noat "Style" "own_far", .meth "ClassRow" "size_at", .meth "Reader" "pair_of", .meth "Reader" "take", .meth "Reader" "take_zooms", .meth "Reader" "take_class"] : List He.Fa) ++
  ([.meth "Reader" "take_beside", .meth "Reader" "take_far", .meth "Style" "__eq__", .meth "Style" "check_zoom", .meth "Style" "rank_of", .meth "Style" "distance"] : List He.Fa)
def fa : List He.Fa := (fa0 ++ fa1)
def D_is_integer : DefA := ⟨fun K => He.ga K "is_integer", "is_integer", "is_integer", defArgs d_is_integer, defBody d_is_integer, defScope d_is_integer, fun K => []⟩
def D_is_between : DefA := ⟨fun K => He.ga K "is_between", "is_between", "is_between", defArgs d_is_between, defBody d_is_between, defScope d_is_between, fun K => []⟩
def D_is_tuple : DefA := ⟨fun K => He.ga K "is_tuple", "is_tuple", "is_tuple", defArgs d_is_tuple, defBody d_is_tuple, defScope d_is_tuple, fun K => []⟩
def D_is_name : DefA := ⟨fun K => He.ga K "is_name", "is_name", "is_name", defArgs d_is_name, defBody d_is_name, defScope d_is_name, fun K => []⟩
def D_whole_in : DefA := ⟨fun K => He.ga K "whole_in", "whole_in", "whole_in", defArgs d_whole_in, defBody d_whole_in, defScope d_whole_in, fun K => []⟩
def D_signed_in : DefA := ⟨fun K => He.ga K "signed_in", "signed_in", "signed_in", defArgs d_signed_in, defBody d_signed_in, defScope d_signed_in, fun K => []⟩
def D_is_place : DefA := ⟨fun K => He.ga K "is_place", "is_place", "is_place", defArgs d_is_place, defBody d_is_place, defScope d_is_place, fun K => []⟩
def D_is_weight : DefA := ⟨fun K => He.ga K "is_weight", "is_weight", "is_weight", defArgs d_is_weight, defBody d_is_weight, defScope d_is_weight, fun K => []⟩
def D_is_label : DefA := ⟨fun K => He.ga K "is_label", "is_label", "is_label", defArgs d_is_label, defBody d_is_label, defScope d_is_label, fun K => []⟩
def D_order_key : DefA := ⟨fun K => He.ga K "order_key", "order_key", "order_key", defArgs d_order_key, defBody d_order_key, defScope d_order_key, fun K => []⟩
def D_in_order : DefA := ⟨fun K => He.ga K "in_order", "in_order", "in_order", defArgs d_in_order, defBody d_in_order, defScope d_in_order, fun K => []⟩
def D_gap_between : DefA := ⟨fun K => He.ga K "gap_between", "gap_between", "gap_between", defArgs d_gap_between, defBody d_gap_between, defScope d_gap_between, fun K => []⟩
def D_can_stand : DefA := ⟨fun K => He.ga K "can_stand", "can_stand", "can_stand", defArgs d_can_stand, defBody d_can_stand, defScope d_can_stand, fun K => []⟩
def D_first_bad : DefA := ⟨fun K => He.ga K "first_bad", "first_bad", "first_bad", defArgs d_first_bad, defBody d_first_bad, defScope d_first_bad, fun K => []⟩
def D_checked_labels : DefA := ⟨fun K => He.ga K "checked_labels", "checked_labels", "checked_labels", defArgs d_checked_labels, defBody d_checked_labels, defScope d_checked_labels, fun K => []⟩
def D_label_called : DefA := ⟨fun K => He.ga K "label_called", "label_called", "label_called", defArgs d_label_called, defBody d_label_called, defScope d_label_called, fun K => []⟩
def D_label_told : DefA := ⟨fun K => He.ga K "label_told", "label_told", "label_told", defArgs d_label_told, defBody d_label_told, defScope d_label_told, fun K => []⟩
def D_read_labels : DefA := ⟨fun K => He.ga K "read_labels", "read_labels", "read_labels", defArgs d_read_labels, defBody d_read_labels, defScope d_read_labels, fun K => []⟩
def D_are_sizes : DefA := ⟨fun K => He.ga K "are_sizes", "are_sizes", "are_sizes", defArgs d_are_sizes, defBody d_are_sizes, defScope d_are_sizes, fun K => []⟩
def D_class_row : DefA := ⟨fun K => He.ga K "class_row", "class_row", "class_row", defArgs d_class_row, defBody d_class_row, defScope d_class_row, fun K => []⟩
def D_read_style : DefA := ⟨fun K => He.ga K "read_style", "read_style", "read_style", defArgs d_read_style, defBody d_read_style, defScope d_read_style, fun K => []⟩
def D_rank_pair : DefA := ⟨fun K => He.ga K "rank_pair", "rank_pair", "rank_pair", defArgs d_rank_pair, defBody d_rank_pair, defScope d_rank_pair, fun K => []⟩
def D_law_pot : DefA := ⟨fun K => He.ga K "_law_pot", "_law_pot", "_law_pot", defArgs d_law_pot, defBody d_law_pot, defScope d_law_pot, fun K => []⟩
def D_law_take : DefA := ⟨fun K => He.ga K "_law_take", "_law_take", "_law_take", defArgs d_law_take, defBody d_law_take, defScope d_law_take, fun K => []⟩
def D_law_of : DefA := ⟨fun K => He.ga K "_law_of", "_law_of", "_law_of", defArgs d_law_of, defBody d_law_of, defScope d_law_of, fun K => []⟩
def D_law_name : DefA := ⟨fun K => He.ga K "_law_name", "_law_name", "_law_name", defArgs d_law_name, defBody d_law_name, defScope d_law_name, fun K => []⟩
def D_law_sizes : DefA := ⟨fun K => He.ga K "_law_sizes", "_law_sizes", "_law_sizes", defArgs d_law_sizes, defBody d_law_sizes, defScope d_law_sizes, fun K => []⟩
def D_law_classes : DefA := ⟨fun K => He.ga K "_law_classes", "_law_classes", "_law_classes", defArgs d_law_classes, defBody d_law_classes, defScope d_law_classes, fun K => []⟩
def D_law_pairs : DefA := ⟨fun K => He.ga K "_law_pairs", "_law_pairs", "_law_pairs", defArgs d_law_pairs, defBody d_law_pairs, defScope d_law_pairs, fun K => []⟩
def D_law_is_there : DefA := ⟨fun K => He.ga K "_law_is_there", "_law_is_there", "_law_is_there", defArgs d_law_is_there, defBody d_law_is_there, defScope d_law_is_there, fun K => []⟩
def D_law_pixel : DefA := ⟨fun K => He.ga K "_law_pixel", "_law_pixel", "_law_pixel", defArgs d_law_pixel, defBody d_law_pixel, defScope d_law_pixel, fun K => []⟩
def D_law_half : DefA := ⟨fun K => He.ga K "_law_half", "_law_half", "_law_half", defArgs d_law_half, defBody d_law_half, defScope d_law_half, fun K => []⟩
def D_law_distance : DefA := ⟨fun K => He.ga K "_law_distance", "_law_distance", "_law_distance", defArgs d_law_distance, defBody d_law_distance, defScope d_law_distance, fun K => []⟩
def D_law_lore : DefA := ⟨fun K => He.ga K "_law_lore", "_law_lore", "_law_lore", defArgs d_law_lore, defBody d_law_lore, defScope d_law_lore, fun K => []⟩
def D_law_text : DefA := ⟨fun K => He.ga K "_law_text", "_law_text", "_law_text", defArgs d_law_text, defBody d_law_text, defScope d_law_text, fun K => []⟩
def D_law_pair : DefA := ⟨fun K => He.ga K "_law_pair", "_law_pair", "_law_pair", defArgs d_law_pair, defBody d_law_pair, defScope d_law_pair, fun K => []⟩
def D_law_rank : DefA := ⟨fun K => He.ga K "_law_rank", "_law_rank", "_law_rank", defArgs d_law_rank, defBody d_law_rank, defScope d_law_rank, fun K => []⟩
def D_law_box : DefA := ⟨fun K => He.ga K "_law_box", "_law_box", "_law_box", defArgs d_law_box, defBody d_law_box, defScope d_law_box, fun K => []⟩
def D_law_apart : DefA := ⟨fun K => He.ga K "_law_apart", "_law_apart", "_law_apart", defArgs d_law_apart, defBody d_law_apart, defScope d_law_apart, fun K => []⟩
def D_law_is_near : DefA := ⟨fun K => He.ga K "_law_is_near", "_law_is_near", "_law_is_near", defArgs d_law_is_near, defBody d_law_is_near, defScope d_law_is_near, fun K => []⟩
def D_law_step : DefA := ⟨fun K => He.ga K "_law_step", "_law_step", "_law_step", defArgs d_law_step, defBody d_law_step, defScope d_law_step, fun K => []⟩
def D_law_labels : DefA := ⟨fun K => He.ga K "_law_labels", "_law_labels", "_law_labels", defArgs d_law_labels, defBody d_law_labels, defScope d_law_labels, fun K => []⟩
def D_law_number : DefA := ⟨fun K => He.ga K "_law_number", "_law_number", "_law_number", defArgs d_law_number, defBody d_law_number, defScope d_law_number, fun K => []⟩
def D_law_label_of : DefA := ⟨fun K => He.ga K "_law_label_of", "_law_label_of", "_law_label_of", defArgs d_law_label_of, defBody d_law_label_of, defScope d_law_label_of, fun K => []⟩
def D_law_first_wrong : DefA := ⟨fun K => He.ga K "_law_first_wrong", "_law_first_wrong", "_law_first_wrong", defArgs d_law_first_wrong, defBody d_law_first_wrong, defScope d_law_first_wrong, fun K => []⟩
def D_law_spoilt : DefA := ⟨fun K => He.ga K "_law_spoilt", "_law_spoilt", "_law_spoilt", defArgs d_law_spoilt, defBody d_law_spoilt, defScope d_law_spoilt, fun K => []⟩
def D_law_told : DefA := ⟨fun K => He.ga K "_law_told", "_law_told", "_law_told", defArgs d_law_told, defBody d_law_told, defScope d_law_told, fun K => []⟩
def D_law_right : DefA := ⟨fun K => He.ga K "_law_right", "_law_right", "_law_right", defArgs d_law_right, defBody d_law_right, defScope d_law_right, fun K => []⟩
def D_law : DefA := ⟨fun K => He.ga K "law", "law", "law", defArgs d_law, defBody d_law, defScope d_law, fun K => []⟩
def D_Sheet_init : DefA := ⟨fun K => He.ma K (He.ga K "Sheet") "__init__", "__init__", "Sheet.__init__", defArgs d_Sheet_init, defBody d_Sheet_init, defScope d_Sheet_init, fun K => []⟩
def D_Sheet_labels : DefA := ⟨fun K => pga K (He.ma K (He.ga K "Sheet") "labels"), "labels", "Sheet.labels", defArgs d_Sheet_labels, defBody d_Sheet_labels, defScope d_Sheet_labels, fun K => []⟩
def D_Sheet_eq : DefA := ⟨fun K => He.ma K (He.ga K "Sheet") "__eq__", "__eq__", "Sheet.__eq__", defArgs d_Sheet_eq, defBody d_Sheet_eq, defScope d_Sheet_eq, fun K => []⟩
def D_Sheet_sub : DefA := ⟨fun K => He.ma K (He.ga K "Sheet") "__sub__", "__sub__", "Sheet.__sub__", defArgs d_Sheet_sub, defBody d_Sheet_sub, defScope d_Sheet_sub, fun K => []⟩
def D_ClassRow_init : DefA := ⟨fun K => He.ma K (He.ga K "ClassRow") "__init__", "__init__", "ClassRow.__init__", defArgs d_ClassRow_init, defBody d_ClassRow_init, defScope d_ClassRow_init, fun K => []⟩
def D_ClassRow_size_at : DefA := ⟨fun K => He.ma K (He.ga K "ClassRow") "size_at", "size_at", "ClassRow.size_at", defArgs d_ClassRow_size_at, defBody d_ClassRow_size_at, defScope d_ClassRow_size_at, fun K => []⟩
def D_Reader_init : DefA := ⟨fun K => He.ma K (He.ga K "Reader") "__init__", "__init__", "Reader.__init__", defArgs d_Reader_init, defBody d_Reader_init, defScope d_Reader_init, fun K => []⟩
def D_Reader_pair_of : DefA := ⟨fun K => He.ma K (He.ga K "Reader") "pair_of", "pair_of", "Reader.pair_of", defArgs d_Reader_pair_of, defBody d_Reader_pair_of, defScope d_Reader_pair_of, fun K => []⟩
def D_Reader_take : DefA := ⟨fun K => He.ma K (He.ga K "Reader") "take", "take", "Reader.take", defArgs d_Reader_take, defBody d_Reader_take, defScope d_Reader_take, fun K => []⟩
def D_Reader_take_zooms : DefA := ⟨fun K => He.ma K (He.ga K "Reader") "take_zooms", "take_zooms", "Reader.take_zooms", defArgs d_Reader_take_zooms, defBody d_Reader_take_zooms, defScope d_Reader_take_zooms, fun K => []⟩
def D_Reader_take_class : DefA := ⟨fun K => He.ma K (He.ga K "Reader") "take_class", "take_class", "Reader.take_class", defArgs d_Reader_take_class, defBody d_Reader_take_class, defScope d_Reader_take_class, fun K => []⟩
def D_Reader_take_beside : DefA := ⟨fun K => He.ma K (He.ga K "Reader") "take_beside", "take_beside", "Reader.take_beside", defArgs d_Reader_take_beside, defBody d_Reader_take_beside, defScope d_Reader_take_beside, fun K => []⟩
def D_Reader_take_far : DefA := ⟨fun K => He.ma K (He.ga K "Reader") "take_far", "take_far", "Reader.take_far", defArgs d_Reader_take_far, defBody d_Reader_take_far, defScope d_Reader_take_far, fun K => []⟩
def D_Style_init : DefA := ⟨fun K => He.ma K (He.ga K "Style") "__init__", "__init__", "Style.__init__", defArgs d_Style_init, defBody d_Style_init, defScope d_Style_init, fun K => []⟩
def D_Style_eq : DefA := ⟨fun K => He.ma K (He.ga K "Style") "__eq__", "__eq__", "Style.__eq__", defArgs d_Style_eq, defBody d_Style_eq, defScope d_Style_eq, fun K => []⟩
def D_Style_call : DefA := ⟨fun K => He.ma K (He.ga K "Style") "__call__", "__call__", "Style.__call__", defArgs d_Style_call, defBody d_Style_call, defScope d_Style_call, fun K => []⟩
def D_Style_text : DefA := ⟨fun K => pga K (He.ma K (He.ga K "Style") "text"), "text", "Style.text", defArgs d_Style_text, defBody d_Style_text, defScope d_Style_text, fun K => []⟩
def D_Style_last : DefA := ⟨fun K => pga K (He.ma K (He.ga K "Style") "last"), "last", "Style.last", defArgs d_Style_last, defBody d_Style_last, defScope d_Style_last, fun K => []⟩
def D_Style_classes : DefA := ⟨fun K => pga K (He.ma K (He.ga K "Style") "classes"), "classes", "Style.classes", defArgs d_Style_classes, defBody d_Style_classes, defScope d_Style_classes, fun K => []⟩
def D_Style_check_zoom : DefA := ⟨fun K => He.ma K (He.ga K "Style") "check_zoom", "check_zoom", "Style.check_zoom", defArgs d_Style_check_zoom, defBody d_Style_check_zoom, defScope d_Style_check_zoom, fun K => []⟩
def D_Style_rank_of : DefA := ⟨fun K => He.ma K (He.ga K "Style") "rank_of", "rank_of", "Style.rank_of", defArgs d_Style_rank_of, defBody d_Style_rank_of, defScope d_Style_rank_of, fun K => []⟩
def D_Style_size : DefA := ⟨fun K => He.ma K (He.ga K "Style") "size", "size", "Style.size", defArgs d_Style_size, defBody d_Style_size, defScope d_Style_size, fun K => []⟩
def D_Style_letters : DefA := ⟨fun K => He.ma K (He.ga K "Style") "letters", "letters", "Style.letters", defArgs d_Style_letters, defBody d_Style_letters, defScope d_Style_letters, fun K => []⟩
def D_Style_far : DefA := ⟨fun K => He.ma K (He.ga K "Style") "far", "far", "Style.far", defArgs d_Style_far, defBody d_Style_far, defScope d_Style_far, fun K => []⟩
def D_Style_distance : DefA := ⟨fun K => He.ma K (He.ga K "Style") "distance", "distance", "Style.distance", defArgs d_Style_distance, defBody d_Style_distance, defScope d_Style_distance, fun K => []⟩
def fn0 : List DefA := ([D_is_integer, D_is_between, D_is_tuple, D_is_name, D_whole_in, D_signed_in, D_is_place, D_is_weight, D_is_label, D_order_key, D_in_order, D_gap_between, D_can_stand, D_first_bad, D_checked_labels] : List DefA) ++
  ([D_label_called, D_label_told, D_read_labels, D_are_sizes, D_class_row, D_read_style, D_rank_pair, D_law_pot, D_law_take, D_law_of, D_law_name, D_law_sizes, D_law_classes, D_law_pairs, D_law_is_there] : List DefA) ++
  ([D_law_pixel, D_law_half, D_law_distance, D_law_lore, D_law_text, D_law_pair, D_law_rank] : List DefA)
def fn1 : List DefA := ([D_law_box, D_law_apart, D_law_is_near, D_law_step, D_law_labels, D_law_number, D_law_label_of, D_law_first_wrong, D_law_spoilt, D_law_told, D_law_right, D_law, D_Sheet_init, D_Sheet_labels, D_Sheet_eq] : List DefA) ++
  ([D_Sheet_sub, D_ClassRow_init, D_ClassRow_size_at, D_Reader_init, D_Reader_pair_of, D_Reader_take, D_Reader_take_zooms, D_Reader_take_class, D_Reader_take_beside, D_Reader_take_far, D_Style_init, D_Style_eq, D_Style_call, D_Style_text, D_Style_last] : List DefA) ++
  ([D_Style_classes, D_Style_check_zoom, D_Style_rank_of, D_Style_size, D_Style_letters, D_Style_far, D_Style_distance] : List DefA)
def fn : List DefA := (([] ++ fn0) ++ fn1)
def ts : List He.Tab := [(fun K => He.ga K "BEHIND", ["", "zooms", "class", "beside", "far"])]
abbrev sIni : Stmt := inClass (top 2) 0
def iv : FnI := some ("__init__", "LabelError.__init__", defArgs sIni, .stmts (defBody sIni), defScope sIni, mainGlobals, builtinsNs, ["__class__"])
theorem iv_eq : iv = iniV ⟨7, 17, 7, 21⟩ ⟨7, 23, 7, 28⟩ ⟨8, 8, 8, 13⟩ ⟨8, 8, 8, 15⟩ ⟨8, 8, 8, 24⟩ ⟨8, 25, 8, 30⟩ ⟨8, 8, 8, 31⟩ ⟨8, 8, 8, 31⟩ ⟨9, 8, 9, 12⟩ ⟨9, 8, 9, 18⟩ ⟨9, 21, 9, 26⟩ ⟨9, 8, 9, 26⟩ := rfl
def exL0 : List (PySem.W.Frag → Bool) := ([fun K => isCB K (He.ga K "Sheet"), fun K => isCB K (He.ga K "Style"), fun K => errB K (He.ga K "LabelError") (fIn K) (He.ga K "LabelError"), fun K => errB K (He.ga K "LabelError") (fIn K) (He.ga K "BadStyle"), fun K => errB K (He.ga K "LabelError") (fIn K) (He.ga K "NoClass"), fun K => errB K (He.ga K "LabelError") (fIn K) (He.ga K "BadZoom"), fun K => errB K (He.ga K "LabelError") (fIn K) (He.ga K "BadLabels"), fun K => errB K (He.ga K "LabelError") (fIn K) (He.ga K "NoLabel")] : List (PySem.W.Frag → Bool))
def exL1 : List (PySem.W.Frag → Bool) := ([fun K => errB K (He.ga K "LabelError") (fIn K) (He.ga K "BadLine"), fun K => iniB prg K (He.ga K "LabelError") (fIn K), fun K => strsB K (He.ga K "BEHIND") "" ["zooms"], fun K => strsB K (He.ga K "BEHIND") "zooms" ["class"], fun K => strsB K (He.ga K "BEHIND") "class" ["class", "beside", "far"], fun K => strsB K (He.ga K "BEHIND") "beside" ["beside", "far"], fun K => strsB K (He.ga K "BEHIND") "far" ["far"]] : List (PySem.W.Frag → Bool))
def exL : List (PySem.W.Frag → Bool) := (exL0 ++ exL1)
def exB (K : PySem.W.Frag) : Bool := exL.all fun f => f K
abbrev R : PySem.W.OpenRow := PySem.W.OpenLaw.row PySem.Challenge.rw_steadylabels_k11_lines_that_tell_no_labe
abbrev hk : PySem.W.Hook := hookY 5000 fa fn ts fIn iv exB
def ob (s : PySem.W.SharedT) : AlZ := withK 5000 (HandSHeadRun.getT s) fun K => obsZ fa fn ts fIn exB K
theorem ob_eq (s : PySem.W.SharedT) : ob s = hk.obs s.abs := obsY_eq (HandSHeadRun.getT_eq s)
def loose : List Str := (["_wall", "LabelError", "BadStyle", "NoClass", "BadZoom", "BadLabels", "NoLabel", "OtherStyle", "BadLine", "LETTERS", "FIGURES", "MOST_LETTERS", "MINUS", "ZERO", "is_integer"] : List Str) ++
  (["is_between", "is_tuple", "is_name", "whole_in", "signed_in", "LABEL_PARTS", "MOST_LABELS", "MOST_WEIGHT", "MOST_PLACE", "is_place", "is_weight", "is_label", "order_key", "in_order", "gap_between"] : List Str) ++
  (["can_stand", "first_bad", "LINE_WORDS", "NUMBERS_AT", "checked_labels", "Sheet", "label_called", "sheet_beside", "is_within", "joined", "common", "label_told", "read_labels", "ZOOMS", "CLASS"] : List Str) ++
  (["BESIDE", "FAR", "BEHIND", "MOST_ZOOMS", "MOST_CLASSES", "LEAST_SIZE", "MOST_SIZE", "MOST_LEAST", "MOST_MORE", "MOST_FAR", "ZOOMS_WORDS", "CLASS_WORDS", "BESIDE_WORDS", "FAR_WORDS", "SIZES_AT"] : List Str) ++
  (["ClassRow", "are_sizes", "class_row", "Reader", "read_style", "rank_pair", "Style", "_law_pot", "_law_take", "_law_of", "_law_name", "_law_sizes", "_law_classes", "_law_pairs", "_law_is_there"] : List Str) ++
  (["_law_pixel", "_law_half", "_law_distance", "_law_lore", "_law_text", "_law_pair", "_law_rank", "_law_box", "_law_apart", "_law_is_near", "_law_step", "_law_labels", "_law_number", "_law_label_of", "_law_first_wrong"] : List Str) ++
  (["_law_spoilt", "_law_told", "_law_right"] : List Str)
theorem runFA (w : World) : RunA R (PySem.W.view R.prog [99]) 30000 loose (w.withFollow "special-get-raises" false) := by
  intro os
  kernel_rfl
theorem runF0 (w : World) : RunP R 30000 5000 fa0 [] ts fIn iv exL0 (w.withFollow "special-get-raises" false) := by
  intro os
  kernel_rfl
theorem runF1001 (w : World) : RunP R 30000 5000 fa1 [] [] fIn iv exL1 (w.withFollow "special-get-raises" false) := by
  intro os
  kernel_rfl
theorem runF1 (w : World) : RunP R 30000 5000 [] fn0 [] fIn iv [] (w.withFollow "special-get-raises" false) := by
  intro os
  kernel_rfl
theorem runF2 (w : World) : RunP R 30000 5000 [] fn1 [] fIn iv [] (w.withFollow "special-get-raises" false) := by
  intro os
  kernel_rfl
theorem runFB (w : World) : RunB R hk ob 30000 (w.withFollow "special-get-raises" false) := fun os => ((((runF0 w).fa (runF1001 w)).fn (runF1 w)).fn (runF2 w)) os
theorem runTA (w : World) : RunA R (PySem.W.view R.prog [99]) 30000 loose (w.withFollow "special-get-raises" true) := by
  intro os
  kernel_rfl
theorem runT0 (w : World) : RunP R 30000 5000 fa0 [] ts fIn iv exL0 (w.withFollow "special-get-raises" true) := by
  intro os
  kernel_rfl
theorem runT1001 (w : World) : RunP R 30000 5000 fa1 [] [] fIn iv exL1 (w.withFollow "special-get-raises" true) := by
  intro os
  kernel_rfl
theorem runT1 (w : World) : RunP R 30000 5000 [] fn0 [] fIn iv [] (w.withFollow "special-get-raises" true) := by
  intro os
  kernel_rfl
theorem runT2 (w : World) : RunP R 30000 5000 [] fn1 [] fIn iv [] (w.withFollow "special-get-raises" true) := by
  intro os
  kernel_rfl
theorem runTB (w : World) : RunB R hk ob 30000 (w.withFollow "special-get-raises" true) := fun os => ((((runT0 w).fa (runT1001 w)).fn (runT1 w)).fn (runT2 w)) os
theorem run (w : World) : HandSHeadRun.RunEq R (PySem.W.view R.prog [99]) hk ob 30000 loose w := PySem.W.byRow2 "special-get-raises" (P := fun w => HandSHeadRun.RunEq R (PySem.W.view R.prog [99]) hk ob 30000 loose w) (fun w => run_of (runFA w) (runFB w)) (fun w => run_of (runTA w) (runTB w)) w
theorem exAt {K : PySem.W.Frag} (h : exB K = true) (i : Nat) {f : PySem.W.Frag → Bool} (e : exL[i]? = some f := by rfl) : f K = true := List.all_eq_true.mp h f (List.mem_of_getElem? e)
theorem tops {w : World} {K : PySem.W.Frag} {h : Heap} {mg : Str → Option Value} (X : K.In h) (G : h.Ns mainGlobals mg) (c : SaysZ fa fn ts fIn iv exB w K) : Top w K mg where
  b_ValueError := He.free_ok X G (c.fact 0 (f := .free "ValueError") rfl)
  b_abs := He.free_ok X G (c.fact 1 (f := .free "abs") rfl)
  b_all := He.free_ok X G (c.fact 2 (f := .free "all") rfl)
  b_any := He.free_ok X G (c.fact 3 (f := .free "any") rfl)
  b_bool := He.free_ok X G (c.fact 4 (f := .free "bool") rfl)
  b_dict := He.free_ok X G (c.fact 5 (f := .free "dict") rfl)
  b_enumerate := He.free_ok X G (c.fact 6 (f := .free "enumerate") rfl)
  b_int := He.free_ok X G (c.fact 7 (f := .free "int") rfl)
  b_isinstance := He.free_ok X G (c.fact 8 (f := .free "isinstance") rfl)
  b_len := He.free_ok X G (c.fact 9 (f := .free "len") rfl)
  b_list := He.free_ok X G (c.fact 10 (f := .free "list") rfl)
  b_max := He.free_ok X G (c.fact 11 (f := .free "max") rfl)
  b_min := He.free_ok X G (c.fact 12 (f := .free "min") rfl)
  b_range := He.free_ok X G (c.fact 13 (f := .free "range") rfl)
  b_repr := He.free_ok X G (c.fact 14 (f := .free "repr") rfl)
  b_set := He.free_ok X G (c.fact 15 (f := .free "set") rfl)
  b_sorted := He.free_ok X G (c.fact 16 (f := .free "sorted") rfl)
  b_str := He.free_ok X G (c.fact 17 (f := .free "str") rfl)
  b_super := He.free_ok X G (c.fact 18 (f := .free "super") rfl)
  b_tuple := He.free_ok X G (c.fact 19 (f := .free "tuple") rfl)
  b_zip := He.free_ok X G (c.fact 20 (f := .free "zip") rfl)
  c_LETTERS := He.str_ok X G (c.fact 21 (f := .str "LETTERS" "abcdefghijklmnopqrstuvwxyz") rfl)
  c_FIGURES := He.str_ok X G (c.fact 22 (f := .str "FIGURES" "0123456789") rfl)
  c_MOST_LETTERS := He.int_ok X G (c.fact 23 (f := .int "MOST_LETTERS" 12) rfl)
  c_MINUS := He.str_ok X G (c.fact 24 (f := .str "MINUS" "-") rfl)
  c_ZERO := He.str_ok X G (c.fact 25 (f := .str "ZERO" "0") rfl)
  c_LABEL_PARTS := He.int_ok X G (c.fact 26 (f := .int "LABEL_PARTS" 6) rfl)
  c_MOST_LABELS := He.int_ok X G (c.fact 27 (f := .int "MOST_LABELS" 30) rfl)
  c_MOST_WEIGHT := He.int_ok X G (c.fact 28 (f := .int "MOST_WEIGHT" 9) rfl)
  c_MOST_PLACE := He.int_ok X G (c.fact 29 (f := .int "MOST_PLACE" 99999) rfl)
  c_LINE_WORDS := He.int_ok X G (c.fact 30 (f := .int "LINE_WORDS" 6) rfl)
  c_NUMBERS_AT := He.int_ok X G (c.fact 31 (f := .int "NUMBERS_AT" 2) rfl)
  c_MOST_ZOOMS := He.int_ok X G (c.fact 32 (f := .int "MOST_ZOOMS" 5) rfl)
  c_MOST_CLASSES := He.int_ok X G (c.fact 33 (f := .int "MOST_CLASSES" 4) rfl)
  c_LEAST_SIZE := He.int_ok X G (c.fact 34 (f := .int "LEAST_SIZE" 2) rfl)
  c_MOST_SIZE := He.int_ok X G (c.fact 35 (f := .int "MOST_SIZE" 9) rfl)
  c_MOST_LEAST := He.int_ok X G (c.fact 36 (f := .int "MOST_LEAST" 9) rfl)
  c_MOST_MORE := He.int_ok X G (c.fact 37 (f := .int "MOST_MORE" 3) rfl)
  c_MOST_FAR := He.int_ok X G (c.fact 38 (f := .int "MOST_FAR" 9999) rfl)
  c_ZOOMS_WORDS := He.int_ok X G (c.fact 39 (f := .int "ZOOMS_WORDS" 2) rfl)
  c_CLASS_WORDS := He.int_ok X G (c.fact 40 (f := .int "CLASS_WORDS" 6) rfl)
  c_BESIDE_WORDS := He.int_ok X G (c.fact 41 (f := .int "BESIDE_WORDS" 3) rfl)
  c_FAR_WORDS := He.int_ok X G (c.fact 42 (f := .int "FAR_WORDS" 4) rfl)
  c_SIZES_AT := He.int_ok X G (c.fact 43 (f := .int "SIZES_AT" 5) rfl)
  g_is_integer := He.glo_ok X G (c.fact 44 (f := .glo "is_integer") rfl)
  g_is_between := He.glo_ok X G (c.fact 45 (f := .glo "is_between") rfl)
  g_is_tuple := He.glo_ok X G (c.fact 46 (f := .glo "is_tuple") rfl)
  g_is_name := He.glo_ok X G (c.fact 47 (f := .glo "is_name") rfl)
  g_whole_in := He.glo_ok X G (c.fact 48 (f := .glo "whole_in") rfl)
  g_signed_in := He.glo_ok X G (c.fact 49 (f := .glo "signed_in") rfl)
  g_is_place := He.glo_ok X G (c.fact 50 (f := .glo "is_place") rfl)
  g_is_weight := He.glo_ok X G (c.fact 51 (f := .glo "is_weight") rfl)
  g_is_label := He.glo_ok X G (c.fact 52 (f := .glo "is_label") rfl)
  g_order_key := He.glo_ok X G (c.fact 53 (f := .glo "order_key") rfl)
  g_in_order := He.glo_ok X G (c.fact 54 (f := .glo "in_order") rfl)
  g_gap_between := He.glo_ok X G (c.fact 55 (f := .glo "gap_between") rfl)
  g_can_stand := He.glo_ok X G (c.fact 56 (f := .glo "can_stand") rfl)
  g_first_bad := He.glo_ok X G (c.fact 57 (f := .glo "first_bad") rfl)
  g_checked_labels := He.glo_ok X G (c.fact 58 (f := .glo "checked_labels") rfl)
  g_label_called := He.glo_ok X G (c.fact 59 (f := .glo "label_called") rfl)
  g_label_told := He.glo_ok X G (c.fact 60 (f := .glo "label_told") rfl)
  g_read_labels := He.glo_ok X G (c.fact 61 (f := .glo "read_labels") rfl)
  g_are_sizes := He.glo_ok X G (c.fact 62 (f := .glo "are_sizes") rfl)
  g_class_row := He.glo_ok X G (c.fact 63 (f := .glo "class_row") rfl)
  g_read_style := He.glo_ok X G (c.fact 64 (f := .glo "read_style") rfl)
  g_rank_pair := He.glo_ok X G (c.fact 65 (f := .glo "rank_pair") rfl)
  g_law_pot := He.glo_ok X G (c.fact 66 (f := .glo "_law_pot") rfl)
  g_law_take := He.glo_ok X G (c.fact 67 (f := .glo "_law_take") rfl)
  g_law_of := He.glo_ok X G (c.fact 68 (f := .glo "_law_of") rfl)
  g_law_name := He.glo_ok X G (c.fact 69 (f := .glo "_law_name") rfl)
  g_law_sizes := He.glo_ok X G (c.fact 70 (f := .glo "_law_sizes") rfl)
  g_law_classes := He.glo_ok X G (c.fact 71 (f := .glo "_law_classes") rfl)
  g_law_pairs := He.glo_ok X G (c.fact 72 (f := .glo "_law_pairs") rfl)
  g_law_is_there := He.glo_ok X G (c.fact 73 (f := .glo "_law_is_there") rfl)
  g_law_pixel := He.glo_ok X G (c.fact 74 (f := .glo "_law_pixel") rfl)
  g_law_half := He.glo_ok X G (c.fact 75 (f := .glo "_law_half") rfl)
  g_law_distance := He.glo_ok X G (c.fact 76 (f := .glo "_law_distance") rfl)
  g_law_lore := He.glo_ok X G (c.fact 77 (f := .glo "_law_lore") rfl)
  g_law_text := He.glo_ok X G (c.fact 78 (f := .glo "_law_text") rfl)
  g_law_pair := He.glo_ok X G (c.fact 79 (f := .glo "_law_pair") rfl)
  g_law_rank := He.glo_ok X G (c.fact 80 (f := .glo "_law_rank") rfl)
  g_law_box := He.glo_ok X G (c.fact 81 (f := .glo "_law_box") rfl)
  g_law_apart := He.glo_ok X G (c.fact 82 (f := .glo "_law_apart") rfl)
  g_law_is_near := He.glo_ok X G (c.fact 83 (f := .glo "_law_is_near") rfl)
  g_law_step := He.glo_ok X G (c.fact 84 (f := .glo "_law_step") rfl)
  g_law_labels := He.glo_ok X G (c.fact 85 (f := .glo "_law_labels") rfl)
  g_law_number := He.glo_ok X G (c.fact 86 (f := .glo "_law_number") rfl)
  g_law_label_of := He.glo_ok X G (c.fact 87 (f := .glo "_law_label_of") rfl)
  g_law_first_wrong := He.glo_ok X G (c.fact 88 (f := .glo "_law_first_wrong") rfl)
  g_law_spoilt := He.glo_ok X G (c.fact 89 (f := .glo "_law_spoilt") rfl)
  g_law_told := He.glo_ok X G (c.fact 90 (f := .glo "_law_told") rfl)
  g_law_right := He.glo_ok X G (c.fact 91 (f := .glo "_law_right") rfl)
  g_law := He.glo_ok X G (c.fact 92 (f := .glo "law") rfl)
  g_Sheet := He.glo_ok X G (c.fact 93 (f := .glo "Sheet") rfl)
  g_ClassRow := He.glo_ok X G (c.fact 94 (f := .glo "ClassRow") rfl)
  g_Reader := He.glo_ok X G (c.fact 95 (f := .glo "Reader") rfl)
  g_Style := He.glo_ok X G (c.fact 96 (f := .glo "Style") rfl)
  g_LabelError := He.glo_ok X G (c.fact 97 (f := .glo "LabelError") rfl)
  g_BadStyle := He.glo_ok X G (c.fact 98 (f := .glo "BadStyle") rfl)
  g_NoClass := He.glo_ok X G (c.fact 99 (f := .glo "NoClass") rfl)
  g_BadZoom := He.glo_ok X G (c.fact 100 (f := .glo "BadZoom") rfl)
  g_BadLabels := He.glo_ok X G (c.fact 101 (f := .glo "BadLabels") rfl)
  g_NoLabel := He.glo_ok X G (c.fact 102 (f := .glo "NoLabel") rfl)
  g_BadLine := He.glo_ok X G (c.fact 103 (f := .glo "BadLine") rfl)
  g_BEHIND := He.glo_ok X G (c.fact 104 (f := .glo "BEHIND") rfl)
  cl_Sheet := He.cls_ok (c.fact 105 (f := .cls "Sheet") rfl)
  cl_ClassRow := He.cls_ok (c.fact 106 (f := .cls "ClassRow") rfl)
  cl_Reader := He.cls_ok (c.fact 107 (f := .cls "Reader") rfl)
  cl_Style := He.cls_ok (c.fact 108 (f := .cls "Style") rfl)
  mk_Sheet := He.mkr_ok (c.fact 109 (f := .mkr "Sheet") rfl)
  mk_ClassRow := He.mkr_ok (c.fact 110 (f := .mkr "ClassRow") rfl)
  mk_Reader := He.mkr_ok (c.fact 111 (f := .mkr "Reader") rfl)
  mk_Style := He.mkr_ok (c.fact 112 (f := .mkr "Style") rfl)
  na_Sheet_own_style := He.noat_ok (c.fact 113 (f := .noat "Sheet" "own_style") rfl)
  na_Sheet_own_labels := He.noat_ok (c.fact 114 (f := .noat "Sheet" "own_labels") rfl)
  na_ClassRow_own_name := He.noat_ok (c.fact 115 (f := .noat "ClassRow" "own_name") rfl)
  na_ClassRow_own_first := He.noat_ok (c.fact 116 (f := .noat "ClassRow" "own_first") rfl)
  na_ClassRow_own_letters := He.noat_ok (c.fact 117 (f := .noat "ClassRow" "own_letters") rfl)
  na_ClassRow_own_sizes := He.noat_ok (c.fact 118 (f := .noat "ClassRow" "own_sizes") rfl)
  na_Reader_own_sort := He.noat_ok (c.fact 119 (f := .noat "Reader" "own_sort") rfl)
  na_Reader_own_last := He.noat_ok (c.fact 120 (f := .noat "Reader" "own_last") rfl)
  na_Reader_own_rows := He.noat_ok (c.fact 121 (f := .noat "Reader" "own_rows") rfl)
  na_Reader_own_beside := He.noat_ok (c.fact 122 (f := .noat "Reader" "own_beside") rfl)
  na_Reader_own_far := He.noat_ok (c.fact 123 (f := .noat "Reader" "own_far") rfl)
  na_Style_own_text := He.noat_ok (c.fact 124 (f := .noat "Style" "own_text") rfl)
  na_Style_own_last := He.noat_ok (c.fact 125 (f := .noat "Style" "own_last") rfl)
  na_Style_own_rows := He.noat_ok (c.fact 126 (f := .noat "Style" "own_rows") rfl)
  na_Style_own_ranks := He.noat_ok (c.fact 127 (f := .noat "Style" "own_ranks") rfl)
  na_Style_own_beside := He.noat_ok (c.fact 128 (f := .noat "Style" "own_beside") rfl)
  na_Style_own_far := He.noat_ok (c.fact 129 (f := .noat "Style" "own_far") rfl)
  m_ClassRow_size_at := He.meth_ok (c.fact 130 (f := .meth "ClassRow" "size_at") rfl)
  m_Reader_pair_of := He.meth_ok (c.fact 131 (f := .meth "Reader" "pair_of") rfl)
  m_Reader_take := He.meth_ok (c.fact 132 (f := .meth "Reader" "take") rfl)
  m_Reader_take_zooms := He.meth_ok (c.fact 133 (f := .meth "Reader" "take_zooms") rfl)
  m_Reader_take_class := He.meth_ok (c.fact 134 (f := .meth "Reader" "take_class") rfl)
  m_Reader_take_beside := He.meth_ok (c.fact 135 (f := .meth "Reader" "take_beside") rfl)
  m_Reader_take_far := He.meth_ok (c.fact 136 (f := .meth "Reader" "take_far") rfl)
  m_Style_eq := He.meth_ok (c.fact 137 (f := .meth "Style" "__eq__") rfl)
  m_Style_check_zoom := He.meth_ok (c.fact 138 (f := .meth "Style" "check_zoom") rfl)
  m_Style_rank_of := He.meth_ok (c.fact 139 (f := .meth "Style" "rank_of") rfl)
  m_Style_distance := He.meth_ok (c.fact 140 (f := .meth "Style" "distance") rfl)
  is_Sheet := isCB_ok (exAt c.exB 0 (f := fun K => isCB K (He.ga K "Sheet")))
  is_Style := isCB_ok (exAt c.exB 1 (f := fun K => isCB K (He.ga K "Style")))
  er_LabelError := errB_ok (exAt c.exB 2 (f := fun K => errB K (He.ga K "LabelError") (fIn K) (He.ga K "LabelError")))
  er_BadStyle := errB_ok (exAt c.exB 3 (f := fun K => errB K (He.ga K "LabelError") (fIn K) (He.ga K "BadStyle")))
  er_NoClass := errB_ok (exAt c.exB 4 (f := fun K => errB K (He.ga K "LabelError") (fIn K) (He.ga K "NoClass")))
  er_BadZoom := errB_ok (exAt c.exB 5 (f := fun K => errB K (He.ga K "LabelError") (fIn K) (He.ga K "BadZoom")))
  er_BadLabels := errB_ok (exAt c.exB 6 (f := fun K => errB K (He.ga K "LabelError") (fIn K) (He.ga K "BadLabels")))
  er_NoLabel := errB_ok (exAt c.exB 7 (f := fun K => errB K (He.ga K "LabelError") (fIn K) (He.ga K "NoLabel")))
  er_BadLine := errB_ok (exAt c.exB 8 (f := fun K => errB K (He.ga K "LabelError") (fIn K) (He.ga K "BadLine")))
  t_BEHIND_0 := strsB_ok (exAt c.exB 10 (f := fun K => strsB K (He.ga K "BEHIND") "" ["zooms"]))
  t_BEHIND_1 := strsB_ok (exAt c.exB 11 (f := fun K => strsB K (He.ga K "BEHIND") "zooms" ["class"]))
  t_BEHIND_2 := strsB_ok (exAt c.exB 12 (f := fun K => strsB K (He.ga K "BEHIND") "class" ["class", "beside", "far"]))
  t_BEHIND_3 := strsB_ok (exAt c.exB 13 (f := fun K => strsB K (He.ga K "BEHIND") "beside" ["beside", "far"]))
  t_BEHIND_4 := strsB_ok (exAt c.exB 14 (f := fun K => strsB K (He.ga K "BEHIND") "far" ["far"]))
  F_is_integer := c.def_ 0 (d := D_is_integer) rfl
  F_is_between := c.def_ 1 (d := D_is_between) rfl
  F_is_tuple := c.def_ 2 (d := D_is_tuple) rfl
  F_is_name := c.def_ 3 (d := D_is_name) rfl
  F_whole_in := c.def_ 4 (d := D_whole_in) rfl
  F_signed_in := c.def_ 5 (d := D_signed_in) rfl
  F_is_place := c.def_ 6 (d := D_is_place) rfl
  F_is_weight := c.def_ 7 (d := D_is_weight) rfl
  F_is_label := c.def_ 8 (d := D_is_label) rfl
  F_order_key := c.def_ 9 (d := D_order_key) rfl
  F_in_order := c.def_ 10 (d := D_in_order) rfl
  F_gap_between := c.def_ 11 (d := D_gap_between) rfl
  F_can_stand := c.def_ 12 (d := D_can_stand) rfl
  F_first_bad := c.def_ 13 (d := D_first_bad) rfl
  F_checked_labels := c.def_ 14 (d := D_checked_labels) rfl
  F_label_called := c.def_ 15 (d := D_label_called) rfl
  F_label_told := c.def_ 16 (d := D_label_told) rfl
  F_read_labels := c.def_ 17 (d := D_read_labels) rfl
  F_are_sizes := c.def_ 18 (d := D_are_sizes) rfl
  F_class_row := c.def_ 19 (d := D_class_row) rfl
  F_read_style := c.def_ 20 (d := D_read_style) rfl
  F_rank_pair := c.def_ 21 (d := D_rank_pair) rfl
  F_law_pot := c.def_ 22 (d := D_law_pot) rfl
  F_law_take := c.def_ 23 (d := D_law_take) rfl
  F_law_of := c.def_ 24 (d := D_law_of) rfl
  F_law_name := c.def_ 25 (d := D_law_name) rfl
  F_law_sizes := c.def_ 26 (d := D_law_sizes) rfl
  F_law_classes := c.def_ 27 (d := D_law_classes) rfl
  F_law_pairs := c.def_ 28 (d := D_law_pairs) rfl
  F_law_is_there := c.def_ 29 (d := D_law_is_there) rfl
  F_law_pixel := c.def_ 30 (d := D_law_pixel) rfl
  F_law_half := c.def_ 31 (d := D_law_half) rfl
  F_law_distance := c.def_ 32 (d := D_law_distance) rfl
  F_law_lore := c.def_ 33 (d := D_law_lore) rfl
  F_law_text := c.def_ 34 (d := D_law_text) rfl
  F_law_pair := c.def_ 35 (d := D_law_pair) rfl
  F_law_rank := c.def_ 36 (d := D_law_rank) rfl
  F_law_box := c.def_ 37 (d := D_law_box) rfl
  F_law_apart := c.def_ 38 (d := D_law_apart) rfl
  F_law_is_near := c.def_ 39 (d := D_law_is_near) rfl
  F_law_step := c.def_ 40 (d := D_law_step) rfl
  F_law_labels := c.def_ 41 (d := D_law_labels) rfl
  F_law_number := c.def_ 42 (d := D_law_number) rfl
  F_law_label_of := c.def_ 43 (d := D_law_label_of) rfl
  F_law_first_wrong := c.def_ 44 (d := D_law_first_wrong) rfl
  F_law_spoilt := c.def_ 45 (d := D_law_spoilt) rfl
  F_law_told := c.def_ 46 (d := D_law_told) rfl
  F_law_right := c.def_ 47 (d := D_law_right) rfl
  F_law := c.def_ 48 (d := D_law) rfl
  F_Sheet_init := c.def_ 49 (d := D_Sheet_init) rfl
  F_Sheet_labels := c.def_ 50 (d := D_Sheet_labels) rfl
  F_Sheet_eq := c.def_ 51 (d := D_Sheet_eq) rfl
  F_Sheet_sub := c.def_ 52 (d := D_Sheet_sub) rfl
  F_ClassRow_init := c.def_ 53 (d := D_ClassRow_init) rfl
  F_ClassRow_size_at := c.def_ 54 (d := D_ClassRow_size_at) rfl
  F_Reader_init := c.def_ 55 (d := D_Reader_init) rfl
  F_Reader_pair_of := c.def_ 56 (d := D_Reader_pair_of) rfl
  F_Reader_take := c.def_ 57 (d := D_Reader_take) rfl
  F_Reader_take_zooms := c.def_ 58 (d := D_Reader_take_zooms) rfl
  F_Reader_take_class := c.def_ 59 (d := D_Reader_take_class) rfl
  F_Reader_take_beside := c.def_ 60 (d := D_Reader_take_beside) rfl
  F_Reader_take_far := c.def_ 61 (d := D_Reader_take_far) rfl
  F_Style_init := c.def_ 62 (d := D_Style_init) rfl
  F_Style_eq := c.def_ 63 (d := D_Style_eq) rfl
  F_Style_call := c.def_ 64 (d := D_Style_call) rfl
  F_Style_text := c.def_ 65 (d := D_Style_text) rfl
  F_Style_last := c.def_ 66 (d := D_Style_last) rfl
  F_Style_classes := c.def_ 67 (d := D_Style_classes) rfl
  F_Style_check_zoom := c.def_ 68 (d := D_Style_check_zoom) rfl
  F_Style_rank_of := c.def_ 69 (d := D_Style_rank_of) rfl
  F_Style_size := c.def_ 70 (d := D_Style_size) rfl
  F_Style_letters := c.def_ 71 (d := D_Style_letters) rfl
  F_Style_far := c.def_ 72 (d := D_Style_far) rfl
  F_Style_distance := c.def_ 73 (d := D_Style_distance) rfl
  ini := by
    have oi := c.ini
    rw [iv_eq] at oi
    obtain ⟨fdI, I0, hdf⟩ := iniB_ok (exAt c.exB 9 (f := fun K => iniB prg K (He.ga K "LabelError") (fIn K))) oi (by decide) (by decide +kernel)
    exact ⟨fdI, I0, hdf⟩
  t_BEHIND := c.tab 0 rfl
end SK
set_option maxHeartbeats 0
namespace SK
open PySem PySem.W PySem.Calls PyProof.Rows
theorem eh1 : opening R.prog = plainProg R.prog.main.scope.names := by kernel_rfl
theorem eh2 (s : Shared) : fenceModules? R.prog s = some s := by kernel_rfl
theorem eh3 : defOf (view R.prog [99]) R.name = some (HandSHeadRun.topDef R.prog 99, []) := by kernel_rfl
theorem eh4 : R.prog.theDef R.name = some ((HandSHeadRun.topDef R.prog 99).params, (HandSHeadRun.topDef R.prog 99).body, (HandSHeadRun.topDef R.prog 99).scope) := by kernel_rfl
theorem eh5 : kwWritten? (HandSHeadRun.topDef R.prog 99).params.kwonlyargs (HandSHeadRun.topDef R.prog 99).params.kw_defaults = some [] := by kernel_rfl
theorem eh6 : (chainsOk (view R.prog [99]) && opensWell R.prog && (frees R.toRowW && R.within.isEmpty)) = true := by decide +kernel
theorem eh7 : R.prog.tablesWhole = true := by decide +kernel
theorem eh8 : R.promised := by w_witness2
theorem eh9 : (HandSHeadRun.topDef R.prog 99).params.defaults = [] := by kernel_rfl
theorem eh10 : (HandSHeadRun.topDef R.prog 99).name = ("law" : PySem.Str) := by kernel_rfl
end SK
set_option maxHeartbeats 4000000
namespace SL
open PySem PySem.Spec PyProof.Rows L2
def sp1 (f : V → Hp → VK → XK → Prop) : Sp := fun vs H Q E => ∃ a, vs = [a] ∧ f a H Q E
def sp2 (f : V → V → Hp → VK → XK → Prop) : Sp := fun vs H Q E => ∃ a b, vs = [a, b] ∧ f a b H Q E
def sp3 (f : V → V → V → Hp → VK → XK → Prop) : Sp := fun vs H Q E => ∃ a b c, vs = [a, b, c] ∧ f a b c H Q E
def sp4 (f : V → V → V → V → Hp → VK → XK → Prop) : Sp := fun vs H Q E => ∃ a b c d, vs = [a, b, c, d] ∧ f a b c d H Q E
def sp5 (f : V → V → V → V → V → Hp → VK → XK → Prop) : Sp := fun vs H Q E => ∃ a b c d e, vs = [a, b, c, d, e] ∧ f a b c d e H Q E
theorem sp1_len {f : V → Hp → VK → XK → Prop} {vs : List V} {H : Hp} {Q : VK} {E : XK} (h : sp1 f vs H Q E) : vs.length = 1 := by obtain ⟨a, rfl, _⟩ := h; rfl
theorem sp2_len {f : V → V → Hp → VK → XK → Prop} {vs : List V} {H : Hp} {Q : VK} {E : XK} (h : sp2 f vs H Q E) : vs.length = 2 := by obtain ⟨a, b, rfl, _⟩ := h; rfl
theorem sp3_len {f : V → V → V → Hp → VK → XK → Prop} {vs : List V} {H : Hp} {Q : VK} {E : XK} (h : sp3 f vs H Q E) : vs.length = 3 := by obtain ⟨a, b, c, rfl, _⟩ := h; rfl
theorem sp4_len {f : V → V → V → V → Hp → VK → XK → Prop} {vs : List V} {H : Hp} {Q : VK} {E : XK} (h : sp4 f vs H Q E) : vs.length = 4 := by obtain ⟨a, b, c, d, rfl, _⟩ := h; rfl
theorem sp5_len {f : V → V → V → V → V → Hp → VK → XK → Prop} {vs : List V} {H : Hp} {Q : VK} {E : XK} (h : sp5 f vs H Q E) : vs.length = 5 := by obtain ⟨a, b, c, d, e, rfl, _⟩ := h; rfl
section
variable {X : Cx}
theorem pe_cI {x : Str} {i : Int} {pos : Pos} (hg : Gl X x) (h : ∃ t, X.mg x = some (.int i t)) (hd : (x == ("__debug__" : Str)) = false := by decide) : PE X (.Name x pos) (tC (.int i)) := by
  obtain ⟨t, h⟩ := h
  exact pe_glob hg h ⟨_, rfl⟩ hd
theorem pe_cS {x z : Str} {pos : Pos} (hg : Gl X x) (h : ∃ t, X.mg x = some (.str z t)) (hd : (x == ("__debug__" : Str)) = false := by decide) : PE X (.Name x pos) (tC (.str z)) := by
  obtain ⟨t, h⟩ := h
  exact pe_glob hg h ⟨_, rfl⟩ hd
end
mutual
def fz : PyData → Bool
  | .list _ => false
  | .dict _ => false
  | .tuple ds => fzAll ds
  | _ => true
def fzAll : List PyData → Bool
  | [] => true
  | d :: ds => fz d && fzAll ds
end
theorem fzAll_iff : ∀ {ds : List PyData}, fzAll ds = true ↔ ∀ d ∈ ds, fz d = true
  | [] => by simp [fzAll]
  | d :: ds => by simp [fzAll, fzAll_iff (ds := ds)]
def Tk (H H' : Hp) : Prop := ∀ b xs, H b = some (.tup xs) → H' b = some (.tup xs)
theorem Tk.refl (H : Hp) : Tk H H := fun _ _ h => h
theorem Tk.trans {H H1 H2 : Hp} (a : Tk H H1) (b : Tk H1 H2) : Tk H H2 := fun c o h => b c o (a c o h)
theorem Same.tk {H H' : Hp} (e : Same H H') : Tk H H' := fun b _ h => e b _ h
theorem Tk.upd {H : Hp} {p : Addr} {o : HO} (h : ∀ xs, H p ≠ some (.tup xs)) : Tk H (L2.upd H p o) := fun b xs hb => by
  rw [upd_ne fun e => h xs (by rw [← e]; exact hb)]
  exact hb
theorem Tk.updL {H : Hp} {p : Addr} {l : List V} {o : HO} (h : H p = some (.lst l)) : Tk H (L2.upd H p o) := Tk.upd fun xs e => by rw [h] at e; cases e
theorem Kp.tk {p : Addr} {H H' : Hp} {l : List V} (e : Kp p H H') (h : H p = some (.lst l)) : Tk H H' := fun b xs hb => e b _ (fun z => by rw [z, h] at hb; cases hb) hb
mutual
theorem Rv.tk {H H' : Hp} (e : Tk H H') : ∀ {v : V} {d : PyData}, Rv H v d → fz d = true → Rv H' v d
  | _, _, .non, _ => .non
  | _, _, .bl b, _ => .bl b
  | _, _, .int i, _ => .int i
  | _, _, .str x, _ => .str x
  | _, _, .lst h r, f => by simp [fz] at f
  | _, _, .tup h r, f => .tup (e _ _ h) (RvL.tk e r (by simpa [fz] using f))
  | _, _, .dK h k r, f => by simp [fz] at f
theorem RvL.tk {H H' : Hp} (e : Tk H H') : ∀ {vs : List V} {ds : List PyData}, RvL H vs ds → fzAll ds = true → RvL H' vs ds
  | _, _, .nil, _ => .nil
  | _, _, .cons h r, f => by
    simp only [fzAll, Bool.and_eq_true] at f
    exact .cons (Rv.tk e h f.1) (RvL.tk e r f.2)
end
theorem RvL.get {H : Hp} : ∀ {vs : List V} {ds : List PyData} {i : Nat} {d : PyData}, RvL H vs ds → ds[i]? = some d → ∃ v, vs[i]? = some v ∧ Rv H v d
  | _, _, _, _, .nil, e => by simp at e
  | _, _, 0, _, .cons h r, e => by
    have := Option.some.inj (show some _ = some _ from e)
    subst this
    exact ⟨_, rfl, h⟩
  | _, _, i + 1, _, .cons h r, e => by
    obtain ⟨v, e1, e2⟩ := RvL.get r (i := i) (by simpa using e)
    exact ⟨v, by simpa using e1, e2⟩
theorem RvL.toInts {H : Hp} : ∀ {vs : List V} {ns : List Int}, RvL H vs (ns.map PyData.int) → vs = ns.map V.int
  | _, [], h => by cases h; rfl
  | _, n :: ns, h => by
    cases h with
    | cons h1 h2 =>
      cases h1
      rw [RvL.toInts h2]
      rfl
theorem RvL.app {H : Hp} : ∀ {vs ws : List V} {ds es : List PyData}, RvL H vs ds → RvL H ws es → RvL H (vs ++ ws) (ds ++ es)
  | _, _, _, _, .nil, h => h
  | _, _, _, _, .cons a r, h => .cons a (RvL.app r h)
theorem fm_succ {α : Type} (f : Nat → Option α) (i : Nat) : (List.range (i + 1)).filterMap f = (List.range i).filterMap f ++ (f i).toList := by
  rw [List.range_succ, List.filterMap_append]
  cases h : f i <;> simp [List.filterMap_cons, h]
theorem fm_len {α : Type} (f : Nat → Option α) (n : Nat) : ((List.range n).filterMap f).length ≤ n := Nat.le_trans (List.length_filterMap_le _ _) (by simp)
section
variable {J : It} {n : Nat} {G : Hp → Prop} {Y : Nat → Hp → V → Hp → Prop} {g : TG} {tt : TT} {te : TE} {vs : List Nat} {σ : L2.St} {H1 : Hp} {D : Addr} {Qd : Hp → Prop}
theorem lc_fm (w : Walk J n G Y) (f : Nat → Option V) (hD : H1 D = none) (hn : n ≤ sizeLine) (hG : ∀ H, Same H1 H → G H)
    (hs : ∀ i x H H' (Ky : V → Hp → Prop) (Kn : Hp → Prop), i < n → Same H1 H → Y i H x H' → (∀ y H4, f i = some y → Same H H4 → Ky y H4) → (∀ H3, f i = none → Same H H3 → Kn H3) →
      g x (wipe σ vs) H' fun σ2 H2 => wipe σ2 vs = wipe σ vs ∧ tt σ2 H2 fun b H3 => if b = true then te σ2 H3 Ky else Kn H3)
    (hd : ∀ H, Same H1 H → H D = some (.lst ((List.range n).filterMap f)) → Qd H) :
    ∃ W : Nat → Nat → Hp → Prop, (∃ m, W 0 m (upd H1 D (.lst []))) ∧ ∀ i m H, W i m H →
      (J.stop i H ∧ Qd H) ∨ (J.go i H ∧ ∃ Nx : Hp → Prop, (∀ H', Nx H' → ∃ m', m' < m ∧ W (i + 1) m' H') ∧ ∀ x H', J.yld i H x H' → g x (wipe σ vs) H' fun σ2 H2 => wipe σ2 vs = wipe σ vs ∧ tt σ2 H2 fun b H3 =>
        if b = true then te σ2 H3 fun y H4 => ∃ acc, H4 D = some (.lst acc) ∧ acc.length < sizeLine ∧ Nx (upd H4 D (.lst (acc ++ [y]))) else Nx H3) := by
  refine lc_it w (fun i H => Same H1 H ∧ H D = some (.lst ((List.range i).filterMap f))) ⟨same_new hD, upd_same⟩ (fun i H _ p => hG H p.1) ?_ (fun H p => hd H p.1 p.2)
  rintro i x H H' hi ⟨s1, hl⟩ y
  refine hs i x H H' _ _ hi s1 y (fun y H4 e s4 => ?_) (fun H3 e s3 => ⟨s1.trans s3, ?_⟩)
  · refine ⟨_, s4 _ _ hl, Nat.lt_of_le_of_lt (fm_len f i) (by omega), ?_, ?_⟩
    · intro b o hb
      rw [upd_ne (ne_of_none hb hD)]
      exact s4 _ _ (s1 _ _ hb)
    · rw [upd_same, fm_succ, e]
      rfl
  · rw [s3 _ _ hl, fm_succ, e]
    simp
theorem lc_fz (w : Walk J n G Y) (f : Nat → Option PyData) (hf : ∀ i d, f i = some d → fz d = true) (hD : H1 D = none) (hn : n ≤ sizeLine) (hG : ∀ H, Same H1 H → G H)
    (hs : ∀ i x H H' (Ky : V → Hp → Prop) (Kn : Hp → Prop), i < n → Same H1 H → Y i H x H' → (∀ y d H4, f i = some d → Rv H4 y d → Same H H4 → Ky y H4) → (∀ H3, f i = none → Same H H3 → Kn H3) →
      g x (wipe σ vs) H' fun σ2 H2 => wipe σ2 vs = wipe σ vs ∧ tt σ2 H2 fun b H3 => if b = true then te σ2 H3 Ky else Kn H3)
    (hd : ∀ H l, Same H1 H → H D = some (.lst l) → RvL H l ((List.range n).filterMap f) → Qd H) :
    ∃ W : Nat → Nat → Hp → Prop, (∃ m, W 0 m (upd H1 D (.lst []))) ∧ ∀ i m H, W i m H →
      (J.stop i H ∧ Qd H) ∨ (J.go i H ∧ ∃ Nx : Hp → Prop, (∀ H', Nx H' → ∃ m', m' < m ∧ W (i + 1) m' H') ∧ ∀ x H', J.yld i H x H' → g x (wipe σ vs) H' fun σ2 H2 => wipe σ2 vs = wipe σ vs ∧ tt σ2 H2 fun b H3 =>
        if b = true then te σ2 H3 fun y H4 => ∃ acc, H4 D = some (.lst acc) ∧ acc.length < sizeLine ∧ Nx (upd H4 D (.lst (acc ++ [y]))) else Nx H3) := by
  have fzs : ∀ i, fzAll ((List.range i).filterMap f) = true := fun i => fzAll_iff.mpr fun d hd' => by
    obtain ⟨j, _, e⟩ := List.mem_filterMap.mp hd'
    exact hf j d e
  refine lc_it w (fun i H => Same H1 H ∧ ∃ l, H D = some (.lst l) ∧ RvL H l ((List.range i).filterMap f)) ⟨same_new hD, [], upd_same, .nil⟩ (fun i H _ p => hG H p.1) ?_ (fun H ⟨p, l, h1, h2⟩ => hd H l p h1 h2)
  rintro i x H H' hi ⟨s1, l, hl, rl⟩ y
  have ll : l.length ≤ i := by rw [rl.length]; exact fm_len f i
  refine hs i x H H' _ _ hi s1 y (fun y d H4 e ry s4 => ?_) (fun H3 e s3 => ⟨s1.trans s3, l, s3 _ _ hl, ?_⟩)
  · have hl4 := s4 _ _ hl
    have t5 : Tk H4 (upd H4 D (.lst (l ++ [y]))) := Tk.updL hl4
    refine ⟨l, hl4, Nat.lt_of_le_of_lt ll (by omega), ?_, l ++ [y], upd_same, ?_⟩
    · intro b o hb
      rw [upd_ne (ne_of_none hb hD)]
      exact s4 _ _ (s1 _ _ hb)
    · rw [fm_succ, e]
      exact ((rl.same s4).tk t5 (fzs i)).snoc (ry.tk t5 (hf i d e))
  · rw [fm_succ, e]
    simpa using rl.same s3
end
theorem fm_some {α : Type} {n : Nat} (f : Nat → α) : (List.range n).filterMap (fun i => some (f i)) = (List.range n).map f := by
  rw [← List.filterMap_eq_map]
  rfl
theorem map_get {α β : Type} (xs : List α) (f : α → β) (d : β) : (List.range xs.length).map (fun i => (xs[i]?.map f).getD d) = xs.map f := by
  refine List.ext_getElem? fun i => ?_
  rw [List.getElem?_map, List.getElem?_map]
  by_cases h : i < xs.length
  · rw [List.getElem?_range h, List.getElem?_eq_getElem h]
    simp [List.getElem?_eq_getElem h]
  · rw [List.getElem?_eq_none (by simpa using h), List.getElem?_eq_none (by simpa using h)]
    rfl
theorem fm_get {α β : Type} (f : α → Option β) : ∀ xs : List α, (List.range xs.length).filterMap (fun i => (xs[i]?).bind f) = xs.filterMap f
  | [] => rfl
  | x :: xs => by
    rw [List.length_cons, List.range_succ_eq_map, List.filterMap_cons, List.filterMap_map]
    have e : ((fun i => ((x :: xs)[i]?).bind f) ∘ Nat.succ) = fun i => (xs[i]?).bind f := by
      funext i
      simp
    rw [e, fm_get f xs]
    simp only [List.getElem?_cons_zero, Option.bind_some, List.filterMap_cons]
end SL
set_option maxHeartbeats 4000000
namespace SL
open PySem PySem.Spec PyProof.Rows L2
section
variable {X : Cx} {K : PySem.W.Frag}
theorem pe_fldK {e : Expr} {f : Str} {pos : Pos} {ta : TE} (hK : X.K = K) (ha : PE X e ta) (hb : attributeBase e f X.env (eval e X.env) = eval e X.env) : PE X (.Attribute e f pos) (tFld K ta f) := by subst hK; exact pe_fld ha hb
theorem ix_listK (hK : X.K = K) : IxR X (rIxL K) := by subst hK; exact ix_list
theorem ix_tupK (hK : X.K = K) : IxR X (rIxT K) := by subst hK; exact ix_tup
theorem op_in_seqK (hK : X.K = K) : OpR X (compareOp .In) (rIn K false) := by subst hK; exact op_in_seq
theorem op_notIn_seqK (hK : X.K = K) : OpR X (compareOp .NotIn) (rIn K true) := by subst hK; exact op_notIn_seq
theorem op_eqDK (hK : X.K = K) (hu : X.A.units + 64 < cLine) : OpR X (compareOp .Eq) (rEqD K) := by subst hK; exact op_eqD hu
theorem mt_indexK (hK : X.K = K) : MtR X "list.index" (rIndex K) := by subst hK; exact mt_index
theorem pe_bmK {T : String} {name : Str} {id : String} {o e : Expr} {es : List Expr} {to : TE} {t : TA} {r : V → List V → Hp → VK → Prop} {apos cpos : Pos} (hK : X.K = K) (pa : PlainAttrs T) (slot : Slot T name id) (hty : typeOf (.builtin id) = pure (.type "method_descriptor")) (hm : MtR X id r) (ho : PE X o to) (ha : PA X (e :: es) t)
    (hbase : attributeBase o name X.env (eval o X.env) = eval o X.env := by rfl)
    (hfew : ((backTo cpos (starEach (e :: es) X.env)).all (fun x => !x.1) && (backToKw cpos (keywordEach [] X.env)).all (fun x => x.1.isSome)
      && decide ((e :: es).length + ([] : List Keyword).length + (if ([] : List Keyword).isEmpty then 0 else 1) < 30)) = true := by rfl)
    (hline : (apos.endLine == cpos.line) = true := by rfl) (hs : starEach (e :: es) X.env = (false, eval e X.env) :: starEach es X.env := by rfl) (hplain : (backTo cpos (starEach es X.env)).any (·.1) = false := by rfl) :
    PE X (.Call (.Attribute o name apos) (e :: es) [] cpos) (tBM K T r to t) := by
  subst hK
  exact pe_bm pa slot hty hm ho ha hbase hfew hline hs hplain
end
end SL
set_option maxHeartbeats 4000000
namespace SL
open PySem PySem.Spec PyProof.Rows L2
def Rz (H : Hp) (E : XK) (C : Addr) (v : V) : Prop := ∀ d H', Same H H' → H d = none → H' d = some (.xd [("value", v)]) → E (.ref C) (some d) H'
theorem Rz.from {H H1 : Hp} {E : XK} {C : Addr} {v : V} (h : Rz H E C v) (s : Same H H1) : Rz H1 E C v := fun d H' s' hd hx => h d H' (s.trans s') (s.free hd) hx
section
variable {X : Cx} {D fI C : Addr} {x : Str} {p pos pos2 : Pos} {e : Expr} {te : TE} {E : XK}
theorem ps_raiseE (hI : ∃ fd, IniT X.prog X.K D fI fd ∧ fd.defaults = .none) (hsu : X.mg "super" = none) (T : ErrC X.K D fI C) (hr : Room 2 X.A) (hg : Gl X x) (hm : X.mg x = some (.ref C)) (hc : X.calm = true)
    (tk : Takes X (fun cls d _ H => E cls d H)) (he : PE X e te) (hdb : (x == ("__debug__" : Str)) = false := by decide) (hs : starEach [e] X.env = (false, eval e X.env) :: starEach [] X.env := by rfl) :
    PS X (.Raise (some (.Call (.Name x p) [e] [] pos)) none pos2) (fun _ σ H => tMkO C (spIni X.K D fI) [] (tCons te tNil) σ H fun cls d H' => E cls d H') := by
  obtain ⟨fd, I0, hdf⟩ := hI
  have F1 : FnOk X.prog X.w X.K X.mg X.base CX0 1 fI fd ["self", "value"] (spIni X.K D fI) := ok_ini I0 hsu
  have P := pmk_oex (p := p) (pos := pos) T.oex T.iC T.tI F1 hr (I0.binds hdf) .nil pass0 hg hm (pa_cons he pa_nil hs) hdb hs
  exact ps_raise (pos := pos2) hc tk P
end
theorem Rz.fin {K : PySem.W.Frag} {D fI C : Addr} {H : Hp} {E : XK} {v : V} (T : ErrC K D fI C) (h : Rz H E C v) : [v].length ≤ 1000 ∧ ∀ a, H a = none → spIni K D fI (.ref a :: ([v] ++ [])) (upd H a (exo a C none))
    (fun u H2 => u = .non ∧ ∃ (d : Addr) (fs : List (Str × V)), H2 a = some (exo a C (some d)) ∧ H2 d = some (exd d fs) ∧ H d = none ∧ E (.ref C) (some d) (upd (del H2 a) d (.xd fs))) (fun _ _ _ => False) := by
  refine ⟨by show 1 ≤ 1000; decide, fun a ha => ⟨a, C, v, rfl, T, upd_same, fun dx hdx hne => ⟨rfl, dx, [("value", v)], upd_same, ?_, ?_, ?_⟩⟩⟩
  · rw [upd_ne hne, upd_same]
  · rw [upd_ne hne] at hdx
    exact hdx
  · rw [upd_ne hne] at hdx
    refine h dx _ (fun b o hb => ?_) hdx upd_same
    have n1 : b ≠ dx := ne_of_none hb hdx
    have n2 : b ≠ a := ne_of_none hb ha
    rw [upd_ne n1, del_ne n2, upd_ne n2, upd_ne n1, upd_ne n2]
    exact hb
theorem passNo {X : Cx} {P : Program} {w : World} : Passes (L2.CX P w) X E0 := fun _ _ _ _ _ _ _ h => by
  obtain ⟨_, _, _, _, _, _, _, _, _, _, _, _, z⟩ := h
  exact z.elim
end SL
set_option maxHeartbeats 4000000
namespace SL
open PySem PySem.Spec PyProof.Rows L2
inductive Kn (H : Hp) : V → String → Prop
  | non : Kn H .non "NoneType"
  | bl (b : Bool) : Kn H (.bl b) "bool"
  | int (i : Int) : Kn H (.int i) "int"
  | str (z : Str) : Kn H (.str z) "str"
  | lst {a : Addr} {xs : List V} : H a = some (.lst xs) → Kn H (.ref a) "list"
  | tup {a : Addr} {xs : List V} : H a = some (.tup xs) → Kn H (.ref a) "tuple"
  | dK {a : Addr} {xs : List (Key × V)} : H a = some (.dK xs) → Kn H (.ref a) "dict"
  | dT {a : Addr} {xs : List (List Key × V)} : H a = some (.dT xs) → Kn H (.ref a) "dict"
theorem Kn.tyx {K : PySem.W.Frag} {H : Hp} {v : V} {n : String} : Kn H v n → TyX K H v (.type n)
  | .non => .base .non
  | .bl b => .base (.bl b)
  | .int i => .base (.int i)
  | .str z => .base (.str z)
  | .lst e => .base (.lst e)
  | .tup e => .base (.tup e)
  | .dK e => .base (.dK e)
  | .dT e => .base (.dT e)
theorem Kn.same {H H' : Hp} (s : Same H H') {v : V} {n : String} : Kn H v n → Kn H' v n
  | .non => .non
  | .bl b => .bl b
  | .int i => .int i
  | .str z => .str z
  | .lst e => .lst (s _ _ e)
  | .tup e => .tup (s _ _ e)
  | .dK e => .dK (s _ _ e)
  | .dT e => .dT (s _ _ e)
theorem Rv.kn {H : Hp} {v : V} {d : PyData} : Rv H v d → ∃ n, Kn H v n
  | .non => ⟨_, .non⟩
  | .bl b => ⟨_, .bl b⟩
  | .int i => ⟨_, .int i⟩
  | .str z => ⟨_, .str z⟩
  | .lst e _ => ⟨_, .lst e⟩
  | .tup e _ => ⟨_, .tup e⟩
  | .dK e _ _ => ⟨_, .dK e⟩
def isIntV : V → Bool
  | .int _ => true
  | _ => false
def isBlV : V → Bool
  | .bl _ => true
  | _ => false
def isStrV : V → Bool
  | .str _ => true
  | _ => false
theorem Kn.kInt {K : PySem.W.Frag} {H : Hp} {v : V} {n : String} (k : Kn H v n) : PySem.W.kitOne K (.type n) (.type "int") = some (isIntV v || isBlV v) := by
  cases k <;> first | exact kit_ty (show kitB _ _ = some true by decide +kernel) | exact kit_ty (show kitB _ _ = some false by decide +kernel)
theorem Kn.kBool {K : PySem.W.Frag} {H : Hp} {v : V} {n : String} (k : Kn H v n) : PySem.W.kitOne K (.type n) (.type "bool") = some (isBlV v) := by
  cases k <;> first | exact kit_ty (show kitB _ _ = some true by decide +kernel) | exact kit_ty (show kitB _ _ = some false by decide +kernel)
theorem Kn.kStr {K : PySem.W.Frag} {H : Hp} {v : V} {n : String} (k : Kn H v n) : PySem.W.kitOne K (.type n) (.type "str") = some (isStrV v) := by
  cases k <;> first | exact kit_ty (show kitB _ _ = some true by decide +kernel) | exact kit_ty (show kitB _ _ = some false by decide +kernel)
def betw (v : V) (i j : Int) : Bool := match v with
  | .int n => decide (i ≤ n) && decide (n ≤ j)
  | _ => false
def optV : Option Int → V
  | none => .non
  | some i => .int i
theorem optV_kn {H : Hp} (o : Option Int) : ∃ n, Kn H (optV o) n := by
  cases o
  · exact ⟨_, .non⟩
  · exact ⟨_, .int _⟩
def letL : List Nat := ("abcdefghijklmnopqrstuvwxyz" : Str).cps.toList
def figL : List Nat := ("0123456789" : Str).cps.toList
def isName (z : Str) : Bool := (decide (1 ≤ z.length) && decide (z.length ≤ 12)) && z.cps.toList.all fun c => decide (c ∈ letL)
def allFig (z : Str) : Bool := z.cps.toList.all fun c => decide (c ∈ figL)
def wholeIn (z : Str) : Option Int := if z = "" ∨ allFig z = false then none else if z = "0" ∨ z.cps.toList.head? ≠ some 48 then intText? z else none
theorem fig_ok {c : Nat} (h : c ∈ figL) : 48 ≤ c ∧ c ≤ 57 := by
  have : ∀ c ∈ figL, 48 ≤ c ∧ c ≤ 57 := by decide +kernel
  exact this c h
theorem fig_of {c : Nat} (h1 : 48 ≤ c) (h2 : c ≤ 57) : c ∈ figL := by
  have : ∀ k, k < 10 → 48 + k ∈ figL := by decide +kernel
  have := this (c - 48) (by omega)
  rwa [show 48 + (c - 48) = c by omega] at this
theorem let_ok {c : Nat} (h : c ∈ letL) : 97 ≤ c ∧ c ≤ 122 := by
  have : ∀ c ∈ letL, 97 ≤ c ∧ c ≤ 122 := by decide +kernel
  exact this c h
theorem lc_sgn {z : Str} {p : Nat → Bool} {g : TG} {tt : TT} {te : TE} {vs : List Nat} {σ : L2.St} {H1 : Hp} {D : Addr} {Qd : Hp → Prop} (hD : H1 D = none) (hn : z.length ≤ sizeLine)
    (hs : ∀ c H (Ky : V → Hp → Prop) (Kn : Hp → Prop), Same H1 H → Ky (.bl (p c)) H → g (.str ⟨#[c]⟩) (wipe σ vs) H fun σ2 H2 => wipe σ2 vs = wipe σ vs ∧ tt σ2 H2 fun b H3 => if b = true then te σ2 H3 Ky else Kn H3)
    (hd : ∀ H, Same H1 H → H D = some (.lst ((z.cps.toList.map p).map V.bl)) → Qd H) :
    ∃ W : Nat → Nat → Hp → Prop, (∃ m, W 0 m (upd H1 D (.lst []))) ∧ ∀ i m H, W i m H →
      ((Its z).stop i H ∧ Qd H) ∨ ((Its z).go i H ∧ ∃ Nx : Hp → Prop, (∀ H', Nx H' → ∃ m', m' < m ∧ W (i + 1) m' H') ∧ ∀ x H', (Its z).yld i H x H' → g x (wipe σ vs) H' fun σ2 H2 => wipe σ2 vs = wipe σ vs ∧ tt σ2 H2 fun b H3 =>
        if b = true then te σ2 H3 fun y H4 => ∃ acc, H4 D = some (.lst acc) ∧ acc.length < sizeLine ∧ Nx (upd H4 D (.lst (acc ++ [y]))) else Nx H3) := by
  refine lc_fm walk_str (fun i => some (V.bl ((z.cps.toList[i]?.map p).getD false))) hD hn (fun _ _ => trivial) ?_ (fun H s h => hd H s ?_)
  · rintro i x H H' Ky Kn hi s1 ⟨rfl, c, hc, rfl⟩ k _
    refine hs c H' Ky Kn s1 (k _ _ ?_ (Same.refl _))
    rw [Array.getElem?_toList, hc]
    rfl
  · rw [h, fm_some]
    have e := map_get z.cps.toList p false
    rw [← e, List.map_map]
    have e2 : z.cps.toList.length = z.cps.size := by simp
    rw [e2]
    rfl
theorem all_map {α : Type} (p : α → Bool) : ∀ l : List α, (l.map p).all id = l.all p
  | [] => rfl
  | a :: l => by
    rw [List.map_cons, List.all_cons, List.all_cons, all_map p l]
    rfl
end SL
namespace SK
open PySem PySem.Spec PyProof.Rows L2 SL
section
variable {w : World} {K : PySem.W.Frag} {mg : Str → Option Value} {base : Heap}
def spIsInt : Sp := sp1 fun v H Q _ => (∃ n, Kn H v n) ∧ Q (.bl (isIntV v)) H
abbrev n_is_integer : List Str := ["value"]
theorem sc_is_integer : FnScope n_is_integer ["value"] (defScope d_is_integer) := ⟨rfl, rfl, rfl, by decide +kernel, rfl, by decide +kernel, by decide +kernel⟩
theorem ok_is_integer (T : Top w K mg) : Has prg w K mg base CX0 1 (He.ga K "is_integer") ["value"] spIsInt := by
  obtain ⟨fd, F⟩ := T.F_is_integer
  refine ⟨fd, F.ok (k := 0) sc_is_integer (fun _ _ _ _ h => sp1_len h) (fun cdv A outer s H vs Q E hr h => ?_), F.bindsN (fun _ _ _ _ _ _ us hl => match us, hl with | [_], _ => rfl), F.kp⟩
  obtain ⟨v0, rfl, h⟩ := h
  refine ⟨_, PSs.nox (pss_one (ps_ret (pe_and (pe_callB call_isi (by rfl) T.b_isinstance (by decide +kernel) (pa_cons (pv 0) (pa_cons (pe_bltn (v := .ty "int") (by rfl) T.b_int (by decide +kernel) rfl) pa_nil))) (pe_one (pe_not (pe_callB call_isi (by rfl) T.b_isinstance (by decide +kernel) (pa_cons (pv 0) (pa_cons (pe_bltn (v := .ty "bool") (by rfl) T.b_bool (by decide +kernel) rfl) pa_nil)))))))), ?_⟩
  obtain ⟨⟨n, kn⟩, q⟩ := h
  refine ⟨_, rfl, _, _, _, _, _, rfl, .ty _, kn.tyx, kn.kInt, _, rfl, ?_⟩
  refine ite2 (fun h0 => ?_) (fun h0 => ?_)
  · refine ⟨_, rfl, _, _, _, _, _, rfl, .ty _, kn.tyx, kn.kBool, _, rfl, ?_⟩
    cases kn <;> first | exact q | exact absurd h0 Bool.false_ne_true
  · cases kn <;> first | exact q | exact absurd rfl h0
def spBetw : Sp := sp3 fun v a b H Q _ => ∃ i j, a = .int i ∧ b = .int j ∧ (∃ n, Kn H v n) ∧ Q (.bl (betw v i j)) H
abbrev n_is_between : List Str := ["value", "low", "high"]
theorem sc_is_between : FnScope n_is_between ["value", "low", "high"] (defScope d_is_between) := ⟨rfl, rfl, rfl, by decide +kernel, rfl, by decide +kernel, by decide +kernel⟩
theorem ok_is_between (T : Top w K mg) : Has prg w K mg base CX0 2 (He.ga K "is_between") ["value", "low", "high"] spBetw := by
  obtain ⟨fd, F⟩ := T.F_is_between
  obtain ⟨fd_is_integer, G_is_integer, b_is_integer, k_is_integer⟩ := ok_is_integer (base := base) T
  refine ⟨fd, F.ok (k := 1) sc_is_between (fun _ _ _ _ h => sp3_len h) (fun cdv A outer s H vs Q E hr h => ?_), F.bindsN (fun _ _ _ _ _ _ us hl => match us, hl with | [_, _, _], _ => rfl), F.kp⟩
  obtain ⟨v0, v1, v2, rfl, h⟩ := h
  refine ⟨_, PSs.nox (pss_one (ps_ret (pe_and (pe_call G_is_integer (hr.mono (by decide)) (by rfl) T.g_is_integer k_is_integer b_is_integer .nil pass0 (pa_cons (pv 0) pa_nil)) (pe_one (pe_chain op_le op_le (pv 1) (pv 0) (pv 2)))))), ?_⟩
  obtain ⟨i, j, rfl, rfl, kn, q⟩ := h
  refine ⟨_, rfl, _, rfl, kn, _, rfl, ?_⟩
  cases v0 with
  | int n =>
    refine ⟨_, rfl, _, rfl, _, _, rfl, rfl, _, rfl, ?_⟩
    refine ite2 (fun h0 => ?_) (fun h0 => ?_)
    · refine ⟨_, rfl, _, _, rfl, rfl, ?_⟩
      have e : betw (.int n) i j = decide (n ≤ j) := by
        show (decide (i ≤ n) && decide (n ≤ j)) = _
        rw [h0, Bool.true_and]
      rw [e] at q
      exact q
    · have e : betw (.int n) i j = false := by
        show (decide (i ≤ n) && decide (n ≤ j)) = _
        rw [Bool.eq_false_iff.mpr h0, Bool.false_and]
      rw [e] at q
      exact q
  | _ => exact q
def spName : Sp := sp1 fun v H Q _ => ∃ z, v = .str z ∧ z.length ≤ sizeLine ∧ ∀ H', Same H H' → Q (.bl (isName z)) H'
abbrev n_is_name : List Str := ["value", "sign"]
theorem sc_is_name : FnScope n_is_name ["value"] (defScope d_is_name) := ⟨rfl, rfl, rfl, by decide +kernel, rfl, by decide +kernel, by decide +kernel⟩
theorem ok_is_name (T : Top w K mg) : Has prg w K mg base CX0 1 (He.ga K "is_name") ["value"] spName := by
  obtain ⟨fd, F⟩ := T.F_is_name
  refine ⟨fd, F.ok (k := 0) sc_is_name (fun _ _ _ _ h => sp1_len h) (fun cdv A outer s H vs Q E hr h => ?_), F.bindsN (fun _ _ _ _ _ _ us hl => match us, hl with | [_], _ => rfl), F.kp⟩
  obtain ⟨v0, rfl, h⟩ := h
  refine ⟨_, PSs.nox (pss_cons (ps_if (PW.pt (pw_or (pt_not (pt_val (pe_callB call_isi (by rfl) T.b_isinstance (by decide +kernel) (pa_cons (pv 0) (pa_cons (pe_bltn (v := .ty "str") (by rfl) T.b_str (by decide +kernel) rfl) pa_nil))))) (pw_or1 (pt_not (pt_chain op_le op_le pe_int (pe_callB call_len (by rfl) T.b_len (by decide +kernel) (pa_cons (pv 0) pa_nil)) (pe_cI (by rfl) T.c_MOST_LETTERS)))))) (pss_one (ps_ret pe_bl)) pss_nil)
    (pss_one (ps_ret (pe_callB (cr_all rfl) (by rfl) T.b_all (by decide +kernel) (pa_cons (pe_lc (own := [("sign", 1)]) (g := gName 1) (by rfl) sc_is_name.nd (pi_str (pv 0)) (blkOk_by (N := n_is_name) (sc := defScope d_is_name) (own := [("sign", 1)]) (by decide +kernel)) (fun _ _ _ _ _ => (pg_name (i := 1) sc_is_name.nd rfl (Or.inl rfl) (.inr rfl))) (fun _ _ _ _ _ => pts_nil) (fun _ _ _ _ _ => (pe_cmpR op_in_sign (pv 1) (pe_cS (by rfl) T.c_LETTERS) (by rfl)))) pa_nil))))), ?_⟩
  obtain ⟨z, rfl, hz, q⟩ := h
  refine ⟨_, rfl, _, _, _, _, _, rfl, .ty _, (Kn.str z (H := H)).tyx, (Kn.str z (H := H)).kStr, _, rfl, ?_⟩
  refine ⟨_, rfl, _, z.length, rfl, ⟨hz, rfl⟩, _, _, rfl, rfl, _, rfl, ?_⟩
  refine ite2 (fun h1 => ?_) (fun h1 => ?_)
  · refine ⟨_, _, rfl, rfl, _, rfl, ?_⟩
    have h1' : 1 ≤ z.length := by
      have := of_decide_eq_true h1
      omega
    by_cases h2 : z.length ≤ 12
    · rw [decide_eq_true (show ((z.length : Nat) : Int) ≤ 12 by omega)]
      refine ⟨_, rfl, z, rfl, fun D hD => ?_⟩
      refine lc_sgn (p := fun c => decide (c ∈ letL)) hD hz (fun c H1 Ky Kn s1 k => ⟨rfl, ⟨_, rfl, _, _, rfl, rfl, k⟩⟩) (fun H1 s1 hl => ?_)
      refine ⟨D, _, rfl, SqL.of hl, ?_⟩
      have e : isName z = (z.cps.toList.map fun c => decide (c ∈ letL)).all id := by
        unfold isName
        rw [decide_eq_true h1', decide_eq_true h2, all_map]
        rfl
      rw [e] at q
      exact q _ s1
    · rw [decide_eq_false (show ¬ ((z.length : Nat) : Int) ≤ 12 by omega)]
      have e : isName z = false := by
        unfold isName
        rw [decide_eq_false h2, Bool.and_false, Bool.false_and]
      rw [e] at q
      exact q _ (Same.refl _)
  · have h1' : ¬ 1 ≤ z.length := fun z' => h1 (decide_eq_true (show (1 : Int) ≤ (z.length : Nat) by omega))
    have e : isName z = false := by
      unfold isName
      rw [decide_eq_false h1', Bool.false_and, Bool.false_and]
    rw [e] at q
    exact ⟨_, rfl, q _ (Same.refl _)⟩
def spWhole : Sp := sp1 fun v H Q _ => ∃ z, v = .str z ∧ z.length ≤ 640 ∧ ∀ H', Same H H' → Q (optV (wholeIn z)) H'
abbrev n_whole_in : List Str := ["word", "sign"]
theorem sc_whole_in : FnScope n_whole_in ["word"] (defScope d_whole_in) := ⟨rfl, rfl, rfl, by decide +kernel, rfl, by decide +kernel, by decide +kernel⟩
theorem ok_whole_in (T : Top w K mg) : Has prg w K mg base CX0 1 (He.ga K "whole_in") ["word"] spWhole := by
  obtain ⟨fd, F⟩ := T.F_whole_in
  refine ⟨fd, F.ok (k := 0) sc_whole_in (fun _ _ _ _ h => sp1_len h) (fun cdv A outer s H vs Q E hr h => ?_), F.bindsN (fun _ _ _ _ _ _ us hl => match us, hl with | [_], _ => rfl), F.kp⟩
  obtain ⟨v0, rfl, h⟩ := h
  refine ⟨_, PSs.nox (pss_cons (ps_if (PW.pt (pw_or (pt_cmpR op_eq (pv 0) pe_str (nomark _)) (pw_or1 (pt_not (pt_val (pe_callB (cr_all rfl) (by rfl) T.b_all (by decide +kernel) (pa_cons (pe_lc (own := [("sign", 1)]) (g := gName 1) (by rfl) sc_whole_in.nd (pi_str (pv 0)) (blkOk_by (N := n_whole_in) (sc := defScope d_whole_in) (own := [("sign", 1)]) (by decide +kernel)) (fun _ _ _ _ _ => (pg_name (i := 1) sc_whole_in.nd rfl (Or.inl rfl) (.inr rfl))) (fun _ _ _ _ _ => pts_nil) (fun _ _ _ _ _ => (pe_cmpR op_in_sign (pv 1) (pe_cS (by rfl) T.c_FIGURES) (by rfl)))) pa_nil))))))) (pss_one (ps_ret pe_non)) pss_nil)
    (pss_one (ps_ret (pe_ifExp (PW.pt (pw_or (pt_cmpR op_eq (pv 0) (pe_cS (by rfl) T.c_ZERO) (nomark _)) (pw_or1 (pt_cmpR op_ne (pe_ix ix_str (pv 0) pe_int (fun _ _ => rfl)) (pe_cS (by rfl) T.c_ZERO) (nomark _))))) (pe_callTy call_int_str (by rfl) T.b_int boot_int (pa_cons (pv 0) pa_nil)) pe_non)))), ?_⟩
  obtain ⟨z, rfl, hz, q⟩ := h
  have hz2 : z.length ≤ sizeLine := Nat.le_trans hz (by decide)
  refine ⟨_, rfl, rfl, _, rfl, ?_⟩
  by_cases h1 : z = ""
  · subst h1
    exact q _ (Same.refl _)
  · rw [decide_eq_false fun e => h1 (V.str.inj e)]
    refine ⟨_, rfl, z, rfl, fun D hD => ?_⟩
    refine lc_sgn (p := fun c => decide (c ∈ figL)) hD hz2 (fun c H1 Ky Kn s1 k => ⟨rfl, ⟨_, rfl, _, _, rfl, rfl, k⟩⟩) (fun H1 s1 hl => ?_)
    refine ⟨D, _, rfl, SqL.of hl, _, rfl, ?_⟩
    rw [all_map]
    have ef : (z.cps.toList.all fun c => decide (c ∈ figL)) = allFig z := rfl
    rw [ef]
    cases hf : allFig z with
    | false =>
      have e : wholeIn z = none := by
        unfold wholeIn
        rw [if_pos (.inr hf)]
      rw [e] at q
      exact q _ s1
    | true =>
      have hne : z.cps.toList ≠ [] := fun e => h1 (Str.ext' (Array.toList_inj.mp e))
      obtain ⟨c, r, hc⟩ : ∃ c r, z.cps.toList = c :: r := List.exists_cons_of_ne_nil hne
      have hdig : NumText.AllDigits z.cps.toList := fun c hc => fig_ok (of_decide_eq_true (List.all_eq_true.mp hf c hc))
      have hint := intText_digits hdig hne (Nat.le_trans hz (by decide))
      have hcond : ¬ (z = "" ∨ allFig z = false) := fun e => e.elim h1 (fun e => by rw [hf] at e; cases e)
      refine ⟨_, rfl, rfl, _, rfl, ?_⟩
      by_cases h2 : z = "0"
      · rw [decide_eq_true (congrArg V.str h2)]
        refine ⟨_, rfl, z, _, rfl, hint, hz, ?_⟩
        have e : wholeIn z = some ((NumText.digitsVal z.cps.toList : Nat) : Int) := by
          unfold wholeIn
          rw [if_neg hcond, if_pos (.inl h2), hint]
        rw [e] at q
        exact q _ s1
      · rw [decide_eq_false fun e => h2 (V.str.inj e)]
        have hat : atI z.cps.toList 0 = some c := atI_nat (j := 0) (by rw [hc]; rfl)
        refine ⟨_, rfl, z, _, c, rfl, rfl, hz2, hat, rfl, _, rfl, ?_⟩
        by_cases h3 : c = 48
        · have e3 : V.str ⟨#[c]⟩ = V.str "0" := by
            rw [h3]
            exact congrArg V.str (by decide +kernel)
          rw [decide_eq_true e3]
          have e : wholeIn z = none := by
            unfold wholeIn
            rw [if_neg hcond, if_neg (fun e => e.elim h2 (fun e => e (by rw [hc, h3]; rfl)))]
          rw [e] at q
          exact q _ s1
        · have e3 : V.str ⟨#[c]⟩ ≠ V.str "0" := fun e => h3 (by
            have e4 : (⟨#[c]⟩ : Str) = ⟨#[48]⟩ := (V.str.inj e).trans (by decide +kernel)
            have e5 := congrArg (fun z : Str => z.cps.toList) e4
            exact (List.cons.inj e5).1)
          rw [decide_eq_false e3]
          refine ⟨_, rfl, z, _, rfl, hint, hz, ?_⟩
          have e : wholeIn z = some ((NumText.digitsVal z.cps.toList : Nat) : Int) := by
            unfold wholeIn
            rw [if_neg hcond, if_pos (.inr (fun e => h3 (by rw [hc] at e; exact Option.some.inj e))), hint]
          rw [e] at q
          exact q _ s1
end
end SK
set_option maxHeartbeats 4000000
namespace SL
open PySem PySem.Spec PyProof.Rows L2
structure Row where
  name : Str
  first : Int
  least : Int
  most : Int
  sizes : List Int
deriving DecidableEq
def intsOf : List (Option Int) → Option (List Int)
  | [] => some []
  | none :: _ => none
  | some n :: r => (intsOf r).map (n :: ·)
theorem intsOf_some : ∀ {os : List (Option Int)} {ns : List Int}, intsOf os = some ns → os = ns.map some
  | [], ns, h => by cases h; rfl
  | none :: r, ns, h => by cases h
  | some n :: r, ns, h => by
    obtain ⟨m, h1, rfl⟩ := Option.map_eq_some_iff.mp (show (intsOf r).map (n :: ·) = some ns from h)
    rw [intsOf_some h1]
    rfl
theorem intsOf_map : ∀ ns : List Int, intsOf (ns.map some) = some ns
  | [] => rfl
  | n :: ns => by
    show (intsOf (ns.map some)).map (n :: ·) = _
    rw [intsOf_map ns]
    rfl
theorem intsOf_none : ∀ {os : List (Option Int)}, intsOf os = none → none ∈ os
  | [], h => by cases h
  | none :: r, h => List.mem_cons_self
  | some n :: r, h => by
    have h1 : (intsOf r).map (n :: ·) = none := h
    exact List.mem_cons_of_mem _ (intsOf_none (Option.map_eq_none_iff.mp h1))
def adj : List Int → Bool
  | a :: b :: r => decide (b ≤ 2 * a) && adj (b :: r)
  | _ => true
def sizesOk (ns : List Int) : Bool := !ns.isEmpty && (ns.all (fun n => decide (2 ≤ n) && decide (n ≤ 9)) && adj ns)
def areSizes (os : List (Option Int)) : Bool := match intsOf os with
  | some ns => sizesOk ns
  | none => false
def sizeAt (r : Row) (n : Int) : Int := if 0 ≤ n - r.first then (r.sizes[(n - r.first).toNat]?).getD 0 else 0
def rowOk (r : Row) (last : Int) : Bool := isName r.name && (decide (0 ≤ r.first) && (sizesOk r.sizes && (decide (r.first + r.sizes.length - 1 ≤ last) && (decide (1 ≤ r.least) && (decide (r.least ≤ 9) && (decide (r.least ≤ r.most) && decide (r.most ≤ r.least + 3)))))))
def rowOf (ws : List Str) : Option Row := match ws with
  | _ :: nm :: f :: l :: m :: s :: ss => match wholeIn f, wholeIn l, wholeIn m, intsOf ((s :: ss).map wholeIn) with
    | some f, some l, some m, some ns => some ⟨nm, f, l, m, ns⟩
    | _, _, _, _ => none
  | _ => none
def classRow (ws : List Str) (last : Int) : Option Row := match rowOf ws with
  | some r => if rowOk r last then some r else none
  | none => none
def RowAt (C : Addr) (H : Hp) (v : V) (r : Row) : Prop := ∃ c dx t1 t2, v = .ref c ∧ H c = some (.ins C dx [("own_name", .str r.name), ("own_first", .int r.first), ("own_letters", .ref t1), ("own_sizes", .ref t2)]) ∧
  H t1 = some (.tup [.int r.least, .int r.most]) ∧ H t2 = some (.tup (r.sizes.map V.int))
theorem RowAt.same {C : Addr} {H H' : Hp} (s : Same H H') {v : V} {r : Row} (h : RowAt C H v r) : RowAt C H' v r := by
  obtain ⟨c, dx, t1, t2, e, h1, h2, h3⟩ := h
  exact ⟨c, dx, t1, t2, e, s _ _ h1, s _ _ h2, s _ _ h3⟩
def Off (c : Addr) (H H' : Hp) : Prop := ∀ b, b ≠ c → H' b = H b
def oD : Option Int → PyData
  | none => .none
  | some i => .int i
theorem dp_opts {K : PySem.W.Frag} {H : Hp} : ∀ os : List (Option Int), DpAll K H (os.map optV) (os.map oD)
  | [] => .nil
  | none :: r => .cons .non (dp_opts r)
  | some i :: r => .cons (.int i) (dp_opts r)
theorem adj_zip : ∀ ns : List Int, adj ns = (List.range (min ns.length (ns.drop 1).length)).all fun i => decide ((ns.drop 1)[i]?.getD 0 ≤ 2 * ns[i]?.getD 0)
  | [] => rfl
  | [a] => rfl
  | a :: b :: r => by
    have ih := adj_zip (b :: r)
    have e : min (a :: b :: r).length ((a :: b :: r).drop 1).length = min (b :: r).length ((b :: r).drop 1).length + 1 := by simp
    rw [e, List.range_succ_eq_map, List.all_cons, List.all_map]
    unfold adj
    rw [ih]
    congr 1
def Shp (m : Nat) (d : PyData) : Prop := d.canLay0 = true ∧ d.depth ≤ m
def ShpL (m : Nat) (ds : List PyData) : Prop := PyData.canLayAll0 ds = true ∧ PyData.depthAll ds ≤ m
theorem ShpL.of {m : Nat} : ∀ {ds : List PyData}, (∀ d ∈ ds, Shp m d) → ShpL m ds
  | [], _ => ⟨by simp only [PyData.canLayAll0], by simp only [PyData.depthAll]; omega⟩
  | d :: ds, h => by
    have h1 := h d List.mem_cons_self
    have h2 := ShpL.of (ds := ds) fun x hx => h x (List.mem_cons_of_mem _ hx)
    refine ⟨by simp only [PyData.canLayAll0, h1.1, h2.1, Bool.and_self], ?_⟩
    simp only [PyData.depthAll]
    exact Nat.max_le.mpr ⟨h1.2, h2.2⟩
theorem Shp.tup {m : Nat} {ds : List PyData} (h : ∀ d ∈ ds, Shp m d) : Shp (m + 1) (.tuple ds) :=
  ⟨by simp only [PyData.canLay0]; exact (ShpL.of h).1, by simp only [PyData.depth]; have := (ShpL.of h).2; omega⟩
theorem Shp.lst {m : Nat} {ds : List PyData} (h : ∀ d ∈ ds, Shp m d) : Shp (m + 1) (.list ds) :=
  ⟨by simp only [PyData.canLay0]; exact (ShpL.of h).1, by simp only [PyData.depth]; have := (ShpL.of h).2; omega⟩
theorem Shp.int {m : Nat} (i : Int) : Shp m (.int i) := ⟨by simp only [PyData.canLay0], by simp only [PyData.depth]; omega⟩
theorem Shp.non {m : Nat} : Shp m .none := ⟨by simp only [PyData.canLay0], by simp only [PyData.depth]; omega⟩
theorem Shp.str {m : Nat} {z : Str} (h : PyData.strOk z = true) : Shp m (.str z) := ⟨by simp only [PyData.canLay0]; exact h, by simp only [PyData.depth]; omega⟩
theorem Shp.mono {m n : Nat} {d : PyData} (h : Shp m d) (e : m ≤ n) : Shp n d := ⟨h.1, Nat.le_trans h.2 e⟩
theorem Shp.shaped {m : Nat} {d : PyData} (h : Shp m d) (e : m ≤ 64) : SeqAt.shaped d = true := by
  show (d.canLay0 && decide (d.depth ≤ 64)) = true
  rw [h.1, decide_eq_true (Nat.le_trans h.2 e)]
  rfl
theorem cutV_drop (xs : List V) (k : Nat) : cutV xs (some (k : Int)) none = xs.drop k := by
  unfold cutV
  rw [HT.sIx_nat, HT.sIx_none]
  by_cases h : k ≤ xs.length
  · rw [Nat.min_eq_left h, List.take_of_length_le (by rw [List.length_drop]; exact Nat.le_refl _)]
  · rw [Nat.min_eq_right (by omega), List.drop_of_length_le (Nat.le_refl _), List.drop_of_length_le (by omega)]
    simp
theorem cutV_mid (xs : List V) (k j : Nat) : cutV xs (some (k : Int)) (some (j : Int)) = (xs.drop k).take (j - k) := by
  unfold cutV
  rw [HT.sIx_nat, HT.sIx_nat]
  by_cases h : k ≤ xs.length
  · rw [Nat.min_eq_left h]
    by_cases h2 : j ≤ xs.length
    · rw [Nat.min_eq_left h2]
    · rw [Nat.min_eq_right (by omega), List.take_of_length_le (by rw [List.length_drop]; exact Nat.le_refl _), List.take_of_length_le (by rw [List.length_drop]; omega)]
  · rw [Nat.min_eq_right (show xs.length ≤ k by omega), List.drop_of_length_le (Nat.le_refl _), List.drop_of_length_le (show xs.length ≤ k by omega)]
    simp
theorem shaped_opts (os : List (Option Int)) : SeqAt.shaped (.tuple (os.map oD)) = true := by
  refine (Shp.tup (m := 0) fun d hd => ?_).shaped (by decide)
  obtain ⟨o, _, rfl⟩ := List.mem_map.mp hd
  cases o
  · exact Shp.non
  · exact Shp.int _
theorem eqv_nil (os : List (Option Int)) : PyData.eqv (.tuple (os.map oD)) (.tuple []) = os.isEmpty := by
  cases os <;> simp [PyData.eqv, PyData.eqvAll]
end SL
namespace SK
open PySem PySem.Spec PyProof.Rows L2 SL
section
variable {w : World} {K : PySem.W.Frag} {mg : Str → Option Value} {base : Heap}
abbrev cRow (K : PySem.W.Frag) : Addr := He.ga K "ClassRow"
def spRowInit (K : PySem.W.Frag) : Sp := sp5 fun self n f l s H Q _ => ∃ c dx, self = .ref c ∧ H c = some (.ins (cRow K) dx []) ∧
  ∀ H', Off c H H' → H' c = some (.ins (cRow K) dx [("own_name", n), ("own_first", f), ("own_letters", l), ("own_sizes", s)]) → Q .non H'
abbrev n_ClassRow_init : List Str := ["self", "name", "first", "letters", "sizes"]
theorem sc_ClassRow_init : FnScope n_ClassRow_init ["self", "name", "first", "letters", "sizes"] (defScope d_ClassRow_init) := ⟨rfl, rfl, rfl, by decide +kernel, rfl, by decide +kernel, by decide +kernel⟩
theorem ok_ClassRow_init (T : Top w K mg) : Has prg w K mg base CX0 1 (He.ma K (He.ga K "ClassRow") "__init__") ["self", "name", "first", "letters", "sizes"] (spRowInit K) := by
  obtain ⟨fd, F⟩ := T.F_ClassRow_init
  refine ⟨fd, F.ok (k := 0) sc_ClassRow_init (fun _ _ _ _ h => sp5_len h) (fun cdv A outer s H vs Q E hr h => ?_), F.bindsN (fun _ _ _ _ _ _ us hl => match us, hl with | [_, _, _, _, _], _ => rfl), F.kp⟩
  obtain ⟨v0, v1, v2, v3, v4, rfl, h⟩ := h
  refine ⟨_, PSs.nox (pss_cons (ps_fld (pv 0) (pv 1) rfl)
    (pss_cons (ps_fld (pv 0) (pv 2) rfl)
    (pss_cons (ps_fld (pv 0) (pv 3) rfl)
    (pss_one (ps_fld (pv 0) (pv 4) rfl))))), ?_⟩
  obtain ⟨c, dx, rfl, hc, q⟩ := h
  refine ⟨_, rfl, _, rfl, c, _, dx, _, rfl, hc, T.cl_ClassRow, T.na_ClassRow_own_name, by decide, ?_⟩
  refine ⟨_, rfl, _, rfl, c, _, dx, _, rfl, upd_same, T.cl_ClassRow, T.na_ClassRow_own_first, by show 1 < 1000; decide, ?_⟩
  refine ⟨_, rfl, _, rfl, c, _, dx, _, rfl, upd_same, T.cl_ClassRow, T.na_ClassRow_own_letters, by show 2 < 1000; decide, ?_⟩
  refine ⟨_, rfl, _, rfl, c, _, dx, _, rfl, upd_same, T.cl_ClassRow, T.na_ClassRow_own_sizes, by show 3 < 1000; decide, ?_⟩
  refine q _ (fun b hb => ?_) upd_same
  rw [upd_ne hb, upd_ne hb, upd_ne hb, upd_ne hb]
def spAreSizes : Sp := sp1 fun v H Q _ => ∃ t os, v = .ref t ∧ H t = some (.tup (os.map optV)) ∧ os.length ≤ 1000 ∧ ∀ H', Same H H' → Q (.bl (areSizes os)) H'
abbrev n_are_sizes : List Str := ["sizes", "size", "later"]
theorem sc_are_sizes : FnScope n_are_sizes ["sizes"] (defScope d_are_sizes) := ⟨rfl, rfl, rfl, by decide +kernel, rfl, by decide +kernel, by decide +kernel⟩
theorem ok_are_sizes (T : Top w K mg) : Has prg w K mg base CX0 3 (He.ga K "are_sizes") ["sizes"] spAreSizes := by
  obtain ⟨fd, F⟩ := T.F_are_sizes
  obtain ⟨fd_is_between, G_is_between, b_is_between, k_is_between⟩ := ok_is_between (base := base) T
  refine ⟨fd, F.ok (k := 2) sc_are_sizes (fun _ _ _ _ h => sp1_len h) (fun cdv A outer s H vs Q E hr h => ?_), F.bindsN (fun _ _ _ _ _ _ us hl => match us, hl with | [_], _ => rfl), F.kp⟩
  obtain ⟨v0, rfl, h⟩ := h
  refine ⟨_, PSs.nox (pss_cons (ps_if (PW.pt (pw_or (pt_cmpR (op_eqD hr.units) (pv 0) (pe_tup pa_nil) (nomark _)) (pw_or1 (pt_not (pt_val (pe_callB (cr_all rfl) (by rfl) T.b_all (by decide +kernel) (pa_cons (pe_lc (own := [("size", 1)]) (g := gName 1) (by rfl) sc_are_sizes.nd (pi_tup (pv 0)) (blkOk_by (N := n_are_sizes) (sc := defScope d_are_sizes) (own := [("size", 1)]) (by decide +kernel)) (fun _ _ _ _ _ => (pg_name (i := 1) sc_are_sizes.nd rfl (Or.inl rfl) (.inr rfl))) (fun _ _ _ _ _ => pts_nil) (fun _ _ _ _ _ => (pe_call G_is_between (hr.mono (by decide)) (by rfl) T.g_is_between k_is_between b_is_between .nil pass0 (pa_cons (pv 1) (pa_cons (pe_cI (by rfl) T.c_LEAST_SIZE) (pa_cons (pe_cI (by rfl) T.c_MOST_SIZE) pa_nil)))))) pa_nil))))))) (pss_one (ps_ret pe_bl)) pss_nil)
    (pss_one (ps_ret (pe_callB (cr_all rfl) (by rfl) T.b_all (by decide +kernel) (pa_cons (pe_lc (own := [("size", 1), ("later", 2)]) (g := gTup K 2 (gCons (gName 1) (gCons (gName 2) gNil))) (by rfl) sc_are_sizes.nd (RZ.pi_zipA (by rfl) T.b_zip (pa_cons (pv 0) (pa_cons (pe_slice sl_tup (pv 0) (po_some pe_int) po_none) pa_nil))) (blkOk_by (N := n_are_sizes) (sc := defScope d_are_sizes) (own := [("size", 1), ("later", 2)]) (by decide +kernel)) (fun _ _ _ _ _ => (pg_tup rfl (pgs_cons (pg_name (i := 1) sc_are_sizes.nd rfl (Or.inl rfl) (.inr rfl)) (pgs_cons (pg_name (i := 2) sc_are_sizes.nd rfl (Or.inl rfl) (.inr rfl)) pgs_nil)))) (fun _ _ _ _ _ => pts_nil) (fun _ _ _ _ _ => (pe_cmpR op_le (pv 2) (pe_op op_mul pe_int (pv 1)) (nomark _)))) pa_nil))))), ?_⟩
  obtain ⟨t, os, rfl, ht, hl, q⟩ := h
  refine ⟨_, rfl, (by show 0 ≤ sizeLine; decide), fun p hp => ?_⟩
  have s1 : Same H (upd H p (.tup [])) := same_new hp
  refine ⟨_, _, .tup (SqT.of (s1 _ _ ht)) (dp_opts os), .tup (SqT.of upd_same) .nil, shaped_opts os, by decide +kernel, _, rfl, ?_⟩
  rw [eqv_nil]
  cases os with
  | nil => exact q _ s1
  | cons o os' =>
    refine ⟨_, rfl, t, rfl, ⟨_, SqT.of (s1 _ _ ht)⟩, fun D hD => ?_⟩
    refine lc_fm (walk_tup (xs := (o :: os').map optV)) (fun i => some (V.bl (((o :: os')[i]?.map fun o => betw (optV o) 2 9).getD false))) hD (by rw [List.length_map]; exact Nat.le_trans hl (by decide)) (fun H2 s2 => SqT.of (s2 _ _ (s1 _ _ ht))) ?_ ?_
    · rintro i x H2 H3 Ky Kn hi s2 ⟨rfl, hx⟩ ky _
      rw [List.getElem?_map] at hx
      obtain ⟨o2, ho2, rfl⟩ := Option.map_eq_some_iff.mp hx
      refine ⟨rfl, _, rfl, _, _, _, rfl, 2, 9, rfl, rfl, optV_kn _, ky _ _ ?_ (Same.refl _)⟩
      rw [ho2]
      rfl
    · intro H2 s2 hD2
      rw [fm_some, List.length_map, show (fun i => V.bl (((o :: os')[i]?.map fun o => betw (optV o) 2 9).getD false)) = V.bl ∘ (fun i => ((o :: os')[i]?.map fun o => betw (optV o) 2 9).getD false) from rfl, ← List.map_map, map_get] at hD2
      refine ⟨D, _, rfl, SqL.of hD2, _, rfl, ?_⟩
      rw [all_map]
      cases hall : (o :: os').all fun o => betw (optV o) 2 9 with
      | false =>
        have e : areSizes (o :: os') = false := by
          unfold areSizes
          split
          · rename_i ns hns
            have := intsOf_some hns
            rw [this, List.all_map] at hall
            unfold sizesOk
            rw [show (ns.all fun n => decide (2 ≤ n) && decide (n ≤ 9)) = false from hall, Bool.false_and, Bool.and_false]
          · rfl
        rw [e] at q
        exact q _ (s1.trans s2)
      | true =>
        obtain ⟨ns, hns⟩ : ∃ ns, intsOf (o :: os') = some ns := by
          cases h : intsOf (o :: os') with
          | some ns => exact ⟨ns, rfl⟩
          | none =>
            have := List.all_eq_true.mp hall _ (intsOf_none h)
            cases this
        have e1 := intsOf_some hns
        have e2 : areSizes (o :: os') = adj ns := by
          unfold areSizes
          rw [hns]
          show sizesOk ns = _
          unfold sizesOk
          rw [e1, List.all_map] at hall
          rw [show (ns.all fun n => decide (2 ≤ n) && decide (n ≤ 9)) = true from hall, Bool.true_and]
          cases ns with
          | nil => cases e1
          | cons a b => rfl
        rw [e2] at q
        have hns' : ((o :: os').map optV) = ns.map V.int := by
          rw [e1, List.map_map]
          rfl
        have hlen : ns.length ≤ 1000 := by
          have := congrArg List.length e1
          rw [List.length_map] at this
          omega
        have hne : ns ≠ [] := fun z => by rw [z] at e1; cases e1
        have ht2 : H2 t = some (.tup (ns.map V.int)) := by
          rw [← hns']
          exact s2 _ _ (s1 _ _ ht)
        have hpos : 0 < ns.length := List.length_pos_iff.mpr hne
        refine ⟨_, rfl, _, rfl, 1, rfl, t, _, rfl, SqT.of ht2, ?_, fun p2 hp2 => ?_⟩
        · rw [show (some 1 : Option Int) = some ((1 : Nat) : Int) from rfl, HT.sIx_nat, List.length_map]
          omega
        · rw [show (some 1 : Option Int) = some ((1 : Nat) : Int) from rfl, cutV_drop, ← List.map_drop]
          have s3 : Same H2 (upd H2 p2 (.tup ((ns.drop 1).map V.int))) := same_new hp2
          refine ⟨t, p2, _, _, rfl, .inr ⟨SqT.of (s3 _ _ ht2), SqT.of upd_same, fun D2 hD2 => ?_⟩⟩
          refine lc_fm (walk_zipT (n := min ns.length (ns.drop 1).length) (by rw [List.length_map, List.length_map])) (fun i => some (V.bl (decide ((ns.drop 1)[i]?.getD 0 ≤ 2 * ns[i]?.getD 0)))) hD2 (by have : min ns.length (ns.drop 1).length ≤ ns.length := Nat.min_le_left _ _; exact Nat.le_trans this (Nat.le_trans hlen (by decide)))
            (fun H4 s4 => ⟨SqT.of (s4 _ _ (s3 _ _ ht2)), SqT.of (s4 _ _ upd_same)⟩) ?_ ?_
          · rintro i x H4 H5 Ky Kn hi s4 ⟨Tt, x1, y1, rfl, hT, rfl, e3, e4⟩ ky _
            have e3 : (ns.map V.int)[i]? = some x1 := e3
            have e4 : ((ns.drop 1).map V.int)[i]? = some y1 := e4
            rw [List.getElem?_map] at e3 e4
            obtain ⟨a, ha, rfl⟩ := Option.map_eq_some_iff.mp e3
            obtain ⟨b, hb, rfl⟩ := Option.map_eq_some_iff.mp e4
            refine ⟨Tt, _, rfl, SqT.of upd_same, rfl, _, _, rfl, _, _, rfl, rfl, rfl, ?_⟩
            refine ⟨_, rfl, _, rfl, _, _, rfl, rfl, .inl ⟨by decide, by decide⟩, _, _, rfl, rfl, ky _ _ ?_ (same_new hT)⟩
            rw [ha, hb]
            rfl
          · intro H4 s4 hD4
            have hD5 : H4 D2 = some (.lst (((List.range (min ns.length (ns.drop 1).length)).map fun i => decide ((ns.drop 1)[i]?.getD 0 ≤ 2 * ns[i]?.getD 0)).map V.bl)) := by
              rw [hD4, fm_some, List.map_map]
              rfl
            refine ⟨D2, _, rfl, SqL.of hD5, ?_⟩
            have e5 : ((List.range (min ns.length (ns.drop 1).length)).map fun i => decide ((ns.drop 1)[i]?.getD 0 ≤ 2 * ns[i]?.getD 0)).all id = adj ns := by rw [all_map, adj_zip]
            rw [← e5] at q
            exact q _ (s1.trans (s2.trans (s3.trans s4)))
end
end SK
set_option maxHeartbeats 4000000
namespace SL
open PySem PySem.Spec PyProof.Rows L2
theorem lc_words {K : PySem.W.Frag} {W : Addr} {ws : List Str} {f : Str → V} {g : TG} {tt : TT} {te : TE} {vs : List Nat} {σ : L2.St} {H1 : Hp} {D : Addr} {Qd : Hp → Prop} (hD : H1 D = none) (hW : H1 W = some (.lst (ws.map V.str))) (hn : ws.length ≤ sizeLine)
    (hs : ∀ z H (Ky : V → Hp → Prop) (Kn : Hp → Prop), z ∈ ws → Same H1 H → (∀ H', Same H H' → Ky (f z) H') → g (.str z) (wipe σ vs) H fun σ2 H2 => wipe σ2 vs = wipe σ vs ∧ tt σ2 H2 fun b H3 => if b = true then te σ2 H3 Ky else Kn H3)
    (hd : ∀ H, Same H1 H → H D = some (.lst (ws.map f)) → Qd H) :
    ∃ W' : Nat → Nat → Hp → Prop, (∃ m, W' 0 m (upd H1 D (.lst []))) ∧ ∀ i m H, W' i m H →
      ((Itl K W).stop i H ∧ Qd H) ∨ ((Itl K W).go i H ∧ ∃ Nx : Hp → Prop, (∀ H', Nx H' → ∃ m', m' < m ∧ W' (i + 1) m' H') ∧ ∀ x H', (Itl K W).yld i H x H' → g x (wipe σ vs) H' fun σ2 H2 => wipe σ2 vs = wipe σ vs ∧ tt σ2 H2 fun b H3 =>
        if b = true then te σ2 H3 fun y H4 => ∃ acc, H4 D = some (.lst acc) ∧ acc.length < sizeLine ∧ Nx (upd H4 D (.lst (acc ++ [y]))) else Nx H3) := by
  refine lc_fm (walk_list (xs := ws.map V.str)) (fun i => some ((ws[i]?.map f).getD .non)) hD (by rw [List.length_map]; exact hn) (fun H s => SqL.of (s _ _ hW)) ?_ (fun H s h => hd H s ?_)
  · rintro i x H H' Ky Kn hi s1 ⟨rfl, hx⟩ k _
    rw [List.getElem?_map] at hx
    obtain ⟨z, hz, rfl⟩ := Option.map_eq_some_iff.mp hx
    refine hs z H' Ky Kn (List.mem_of_getElem? hz) s1 fun H2 s2 => k _ _ ?_ s2
    rw [hz]
    rfl
  · rw [h, fm_some, List.length_map, map_get]
theorem classRow_none {ws : List Str} {last : Int} (h : ∀ r, rowOf ws = some r → rowOk r last = true → False) : classRow ws last = none := by
  unfold classRow
  split
  · rename_i r hr
    cases e : rowOk r last with
    | true => exact (h r hr e).elim
    | false => rfl
  · rfl
theorem rowOf_inv {w0 nm f l m s0 : Str} {ss : List Str} {r : Row} (h : rowOf (w0 :: nm :: f :: l :: m :: s0 :: ss) = some r) :
    r.name = nm ∧ wholeIn f = some r.first ∧ wholeIn l = some r.least ∧ wholeIn m = some r.most ∧ intsOf ((s0 :: ss).map wholeIn) = some r.sizes := by
  unfold rowOf at h
  dsimp only at h
  split at h
  · rename_i f' l' m' ns h1 h2 h3 h4
    have e := (Option.some.inj h).symm
    subst e
    exact ⟨rfl, h1, h2, h3, h4⟩
  · cases h
theorem rowOk_iff {r : Row} {last : Int} : rowOk r last = true ↔ isName r.name = true ∧ 0 ≤ r.first ∧ sizesOk r.sizes = true ∧ r.first + r.sizes.length - 1 ≤ last ∧ 1 ≤ r.least ∧ r.least ≤ 9 ∧ r.least ≤ r.most ∧ r.most ≤ r.least + 3 := by
  unfold rowOk
  simp only [Bool.and_eq_true, decide_eq_true_eq]
theorem betw_int {n i j : Int} : betw (.int n) i j = true ↔ i ≤ n ∧ n ≤ j := by
  show (decide (i ≤ n) && decide (n ≤ j)) = true ↔ _
  rw [Bool.and_eq_true, decide_eq_true_eq, decide_eq_true_eq]
theorem areSizes_some {os : List (Option Int)} (h : areSizes os = true) : ∃ ns, intsOf os = some ns ∧ sizesOk ns = true := by
  unfold areSizes at h
  split at h
  · rename_i ns e
    exact ⟨ns, e, h⟩
  · cases h
theorem sizesOk_pos {ns : List Int} (h : sizesOk ns = true) : 0 < ns.length := by
  cases ns with
  | nil => cases h
  | cons a b => simp
end SL
namespace SK
open PySem PySem.Spec PyProof.Rows L2 SL
section
variable {w : World} {K : PySem.W.Frag} {mg : Str → Option Value} {base : Heap}
def spClassRow (K : PySem.W.Frag) : Sp := sp2 fun wv lv H Q _ => ∃ W ws last, wv = .ref W ∧ lv = .int last ∧ H W = some (.lst (ws.map V.str)) ∧ ws.length ≤ 1000 ∧ (∀ z ∈ ws, z.length ≤ 640) ∧
  (classRow ws last = none → ∀ H', Same H H' → Q .non H') ∧ (∀ r, classRow ws last = some r → ∀ H' v, Same H H' → RowAt (cRow K) H' v r → Q v H')
abbrev n_class_row : List Str := ["words", "last", "sizes", "first", "least", "most", "word"]
theorem sc_class_row : FnScope n_class_row ["words", "last"] (defScope d_class_row) := ⟨rfl, rfl, rfl, by decide +kernel, rfl, by decide +kernel, by decide +kernel⟩
theorem ok_class_row (T : Top w K mg) : Has prg w K mg base CX0 4 (He.ga K "class_row") ["words", "last"] (spClassRow K) := by
  obtain ⟨fd, F⟩ := T.F_class_row
  obtain ⟨fd_is_name, G_is_name, b_is_name, k_is_name⟩ := ok_is_name (base := base) T
  obtain ⟨fd_whole_in, G_whole_in, b_whole_in, k_whole_in⟩ := ok_whole_in (base := base) T
  obtain ⟨fd_are_sizes, G_are_sizes, b_are_sizes, k_are_sizes⟩ := ok_are_sizes (base := base) T
  obtain ⟨fd_is_between, G_is_between, b_is_between, k_is_between⟩ := ok_is_between (base := base) T
  obtain ⟨fd_ClassRow_init, G_ClassRow_init, b_ClassRow_init, k_ClassRow_init⟩ := ok_ClassRow_init (base := base) T
  refine ⟨fd, F.ok (k := 3) sc_class_row (fun _ _ _ _ h => sp2_len h) (fun cdv A outer s H vs Q E hr h => ?_), F.bindsN (fun _ _ _ _ _ _ us hl => match us, hl with | [_, _], _ => rfl), F.kp⟩
  obtain ⟨v0, v1, rfl, h⟩ := h
  refine ⟨_, PSs.nox (pss_cons (ps_if (PW.pt (pw_or (pt_cmpR op_lt (pe_callB call_len (by rfl) T.b_len (by decide +kernel) (pa_cons (pv 0) pa_nil)) (pe_cI (by rfl) T.c_CLASS_WORDS) (nomark _)) (pw_or1 (pt_not (pt_val (pe_call G_is_name (hr.mono (by decide)) (by rfl) T.g_is_name k_is_name b_is_name .nil pass0 (pa_cons (pe_ix ix_list (pv 0) pe_int (fun _ _ => rfl)) pa_nil))))))) (pss_one (ps_ret pe_non)) pss_nil)
    (pss_cons (ps_asg (pe_lc (own := [("word", 6)]) (g := gName 6) (by rfl) sc_class_row.nd (pi_list (pe_slice sl_list (pv 0) (po_some pe_int) (po_some (pe_cI (by rfl) T.c_SIZES_AT)))) (blkOk_by (N := n_class_row) (sc := defScope d_class_row) (own := [("word", 6)]) (by decide +kernel)) (fun _ _ _ _ _ => (pg_name (i := 6) sc_class_row.nd rfl (Or.inl rfl) (.inr rfl))) (fun _ _ _ _ _ => pts_nil) (fun _ _ _ _ _ => (pe_call G_whole_in (hr.mono (by decide)) (by rfl) T.g_whole_in k_whole_in b_whole_in .nil pass0 (pa_cons (pv 6) pa_nil)))) (pg_unl rfl (pgs_cons (pg_name (i := 3) sc_class_row.nd rfl (Or.inl rfl)) (pgs_cons (pg_name (i := 4) sc_class_row.nd rfl (Or.inl rfl)) (pgs_cons (pg_name (i := 5) sc_class_row.nd rfl (Or.inl rfl)) pgs_nil)))))
    (pss_cons (ps_set (i := 2) sc_class_row.nd rfl (Or.inl rfl) (pe_callTy call_tuple_of (by rfl) T.b_tuple boot_tuple (pa_cons (pe_lc (own := [("word", 6)]) (g := gName 6) (by rfl) sc_class_row.nd (pi_list (pe_slice sl_list (pv 0) (po_some (pe_cI (by rfl) T.c_SIZES_AT)) po_none)) (blkOk_by (N := n_class_row) (sc := defScope d_class_row) (own := [("word", 6)]) (by decide +kernel)) (fun _ _ _ _ _ => (pg_name (i := 6) sc_class_row.nd rfl (Or.inl rfl) (.inr rfl))) (fun _ _ _ _ _ => pts_nil) (fun _ _ _ _ _ => (pe_call G_whole_in (hr.mono (by decide)) (by rfl) T.g_whole_in k_whole_in b_whole_in .nil pass0 (pa_cons (pv 6) pa_nil)))) pa_nil)))
    (pss_cons (ps_if (PW.pt (pw_or (pt_not (pt_val (pe_call G_is_between (hr.mono (by decide)) (by rfl) T.g_is_between k_is_between b_is_between .nil pass0 (pa_cons (pv 3) (pa_cons pe_int (pa_cons (pv 1) pa_nil)))))) (pw_or (pt_not (pt_val (pe_call G_are_sizes (hr.mono (by decide)) (by rfl) T.g_are_sizes k_are_sizes b_are_sizes .nil pass0 (pa_cons (pv 2) pa_nil)))) (pw_or1 (pt_cmpR op_gt (pe_op op_sub (pe_op op_add (pv 3) (pe_callB call_len (by rfl) T.b_len (by decide +kernel) (pa_cons (pv 2) pa_nil))) pe_int) (pv 1) (nomark _)))))) (pss_one (ps_ret pe_non)) pss_nil)
    (pss_cons (ps_if (PW.pt (pw_or (pt_not (pt_val (pe_call G_is_between (hr.mono (by decide)) (by rfl) T.g_is_between k_is_between b_is_between .nil pass0 (pa_cons (pv 4) (pa_cons pe_int (pa_cons (pe_cI (by rfl) T.c_MOST_LEAST) pa_nil)))))) (pw_or1 (pt_not (pt_val (pe_call G_is_between (hr.mono (by decide)) (by rfl) T.g_is_between k_is_between b_is_between .nil pass0 (pa_cons (pv 5) (pa_cons (pv 4) (pa_cons (pe_op op_add (pv 4) (pe_cI (by rfl) T.c_MOST_MORE)) pa_nil))))))))) (pss_one (ps_ret pe_non)) pss_nil)
    (pss_one (ps_ret (pe_make T.mk_ClassRow G_ClassRow_init (hr.mono (by decide)) (by rfl) T.g_ClassRow b_ClassRow_init .nil pass0 (pa_cons (pe_ix ix_list (pv 0) pe_int (fun _ _ => rfl)) (pa_cons (pv 3) (pa_cons (pe_tup (pa_cons (pv 4) (pa_cons (pv 5) pa_nil))) (pa_cons (pv 2) pa_nil)))))))))))), ?_⟩
  obtain ⟨W, ws, last, rfl, rfl, hW, hl, hz, qn, qs⟩ := h
  refine ⟨_, rfl, _, ws.length, rfl, .inl ⟨_, SqL.of hW, by rw [List.length_map]⟩, _, _, rfl, rfl, _, rfl, ?_⟩
  by_cases h6 : ws.length < 6
  · rw [decide_eq_true (show ((ws.length : Nat) : Int) < 6 by omega)]
    refine qn ?_ _ (Same.refl _)
    unfold classRow rowOf
    match ws, h6 with
    | [], _ => rfl
    | [_], _ => rfl
    | [_, _], _ => rfl
    | [_, _, _], _ => rfl
    | [_, _, _, _], _ => rfl
    | [_, _, _, _, _], _ => rfl
    | _ :: _ :: _ :: _ :: _ :: _ :: _, h => exact absurd h (by simp)
  · rw [decide_eq_false (show ¬ ((ws.length : Nat) : Int) < 6 by omega)]
    obtain ⟨w0, nm, f, l, m, s0, ss, rfl⟩ : ∃ w0 nm f l m s0 ss, ws = w0 :: nm :: f :: l :: m :: s0 :: ss := by
      match ws, h6 with
      | [], h => exact absurd (by simp) h
      | [_], h => exact absurd (by simp) h
      | [_, _], h => exact absurd (by simp) h
      | [_, _, _], h => exact absurd (by simp) h
      | [_, _, _, _], h => exact absurd (by simp) h
      | [_, _, _, _, _], h => exact absurd (by simp) h
      | a :: b :: c :: d :: e :: f :: g, _ => exact ⟨a, b, c, d, e, f, g, rfl⟩
    refine ⟨_, rfl, W, _, _, V.str nm, rfl, rfl, SqL.of hW, atI_nat (j := 1) rfl, ?_⟩
    refine ⟨_, rfl, nm, rfl, Nat.le_trans (hz nm (by simp)) (by decide), fun H1 s1 => ⟨_, rfl, ?_⟩⟩
    have hW1 := s1 _ _ hW
    cases hnm : isName nm with
    | false =>
      refine qn (classRow_none fun r hr' ok => ?_) _ s1
      have e := (rowOk_iff.mp ok).1
      rw [(rowOf_inv hr').1, hnm] at e
      cases e
    | true =>
      refine ⟨_, rfl, 2, rfl, 5, rfl, W, _, rfl, SqL.of hW1, fun p2 hp2 => ?_⟩
      have e2 : cutV ((w0 :: nm :: f :: l :: m :: s0 :: ss).map V.str) (some 2) (some 5) = [f, l, m].map V.str := cutV_mid _ 2 5
      rw [e2]
      have s2 : Same H1 (upd H1 p2 (.lst ([f, l, m].map V.str))) := same_new hp2
      refine ⟨p2, rfl, ⟨_, SqL.of upd_same⟩, fun D hD => ?_⟩
      refine lc_words (f := fun z => optV (wholeIn z)) hD upd_same (by show 3 ≤ sizeLine; decide) ?_ ?_
      · intro z H3 Ky Kn hzm s3 ky
        refine ⟨rfl, _, rfl, _, rfl, z, rfl, hz z ?_, ky⟩
        simp only [List.mem_cons, List.not_mem_nil, or_false] at hzm
        rcases hzm with rfl | rfl | rfl <;> simp
      intro H3 s3 hD3
      have hD3 : H3 D = some (.lst [optV (wholeIn f), optV (wholeIn l), optV (wholeIn m)]) := hD3
      refine ⟨D, _, rfl, SqL.of hD3, rfl, _, _, rfl, _, _, rfl, _, _, rfl, rfl, ?_⟩
      have s13 : Same H1 H3 := s2.trans s3
      have hW3 := s13 _ _ hW1
      refine ⟨_, rfl, 5, rfl, W, _, rfl, SqL.of hW3, fun p4 hp4 => ?_⟩
      have e5 : cutV ((w0 :: nm :: f :: l :: m :: s0 :: ss).map V.str) (some 5) none = (s0 :: ss).map V.str := cutV_drop _ 5
      rw [e5]
      have s4 : Same H3 (upd H3 p4 (.lst ((s0 :: ss).map V.str))) := same_new hp4
      have hls : (s0 :: ss).length ≤ 1000 := by
        simp only [List.length_cons] at hl ⊢
        omega
      refine ⟨p4, rfl, ⟨_, SqL.of upd_same⟩, fun D5 hD5 => ?_⟩
      refine lc_words (f := fun z => optV (wholeIn z)) hD5 upd_same (Nat.le_trans hls (by decide)) ?_ ?_
      · intro z H5 Ky Kn hzm s5 ky
        refine ⟨rfl, _, rfl, _, rfl, z, rfl, hz z ?_, ky⟩
        rcases List.mem_cons.mp hzm with rfl | h
        · simp
        · simp [h]
      intro H5 s5 hD5'
      have hD5' : H5 D5 = some (.lst (((s0 :: ss).map wholeIn).map optV)) := by
        rw [hD5', List.map_map]
        rfl
      have hrow := fun r => rowOf_inv (w0 := w0) (nm := nm) (f := f) (l := l) (m := m) (s0 := s0) (ss := ss) (r := r)
      have hlo : ((s0 :: ss).map wholeIn).length ≤ 1000 := by rw [List.length_map]; exact hls
      have hcs : ∀ r, rowOf (w0 :: nm :: f :: l :: m :: s0 :: ss) = some r → rowOk r last = true → classRow (w0 :: nm :: f :: l :: m :: s0 :: ss) last = some r := fun r h1 h2 => by
        unfold classRow
        rw [h1]
        exact if_pos h2
      have hmk : ∀ fi li mi ns, wholeIn f = some fi → wholeIn l = some li → wholeIn m = some mi → intsOf ((s0 :: ss).map wholeIn) = some ns → rowOf (w0 :: nm :: f :: l :: m :: s0 :: ss) = some ⟨nm, fi, li, mi, ns⟩ := fun fi li mi ns h1 h2 h3 h4 => by
        unfold rowOf
        dsimp only
        rw [h1, h2, h3, h4]
      generalize (s0 :: ss).map wholeIn = os at hD5' hrow hlo hmk ⊢
      refine ⟨D5, _, rfl, .inl ⟨SqL.of hD5', fun t6 ht6 => ?_⟩⟩
      have s6 : Same H5 (upd H5 t6 (.tup (os.map optV))) := same_new ht6
      have s16 : Same H (upd H5 t6 (.tup (os.map optV))) := s1.trans (s13.trans (s4.trans (s5.trans s6)))
      have ht6' : upd H5 t6 (.tup (os.map optV)) t6 = some (.tup (os.map optV)) := upd_same
      generalize upd H5 t6 (.tup (os.map optV)) = H6 at s16 ht6' ⊢
      refine ⟨_, rfl, _, rfl, _, _, _, rfl, 0, last, rfl, rfl, optV_kn _, _, rfl, ?_⟩
      cases hf : wholeIn f with
      | none =>
        refine qn (classRow_none fun r hr' ok => ?_) _ s16
        have e := (hrow r hr').2.1
        rw [hf] at e
        cases e
      | some fi =>
        cases hb : betw (optV (some fi)) 0 last with
        | false =>
          refine qn (classRow_none fun r hr' ok => ?_) _ s16
          have e := (hrow r hr').2.1
          rw [hf] at e
          have e := Option.some.inj e
          have h := rowOk_iff.mp ok
          have hp := sizesOk_pos h.2.2.1
          have : betw (.int fi) 0 last = true := betw_int.mpr ⟨by omega, by omega⟩
          rw [show betw (.int fi) 0 last = betw (optV (some fi)) 0 last from rfl, hb] at this
          cases this
        | true =>
          refine ⟨_, rfl, _, rfl, t6, os, rfl, ht6', hlo, fun H7 s7 => ⟨_, rfl, ?_⟩⟩
          cases hs : areSizes os with
          | false =>
            refine qn (classRow_none fun r hr' ok => ?_) _ (s16.trans s7)
            have e := (hrow r hr').2.2.2.2
            unfold areSizes at hs
            rw [e] at hs
            have hs : sizesOk r.sizes = false := hs
            rw [(rowOk_iff.mp ok).2.2.1] at hs
            cases hs
          | true =>
            obtain ⟨ns, hns, hok⟩ := areSizes_some hs
            have hlen : os.length = ns.length := by rw [intsOf_some hns, List.length_map]
            refine ⟨_, rfl, _, rfl, _, ns.length, rfl, .inr ⟨_, SqT.of (s7 _ _ ht6'), by rw [List.length_map, hlen]⟩, _, _, rfl, rfl, _, _, rfl, rfl, _, rfl, _, _, rfl, rfl, _, rfl, ?_⟩
            by_cases hla : last < fi + (ns.length : Nat) - 1
            · rw [decide_eq_true hla]
              refine qn (classRow_none fun r hr' ok => ?_) _ (s16.trans s7)
              have e := (hrow r hr').2.2.2.2
              rw [hns] at e
              have e := Option.some.inj e
              have e1 := (hrow r hr').2.1
              rw [hf] at e1
              have e1 := Option.some.inj e1
              have := (rowOk_iff.mp ok).2.2.2.1
              rw [← e, ← e1] at this
              omega
            · rw [decide_eq_false hla]
              refine ⟨_, rfl, _, _, _, rfl, 1, 9, rfl, rfl, optV_kn _, _, rfl, ?_⟩
              cases hli : wholeIn l with
              | none =>
                refine qn (classRow_none fun r hr' ok => ?_) _ (s16.trans s7)
                have e := (hrow r hr').2.2.1
                rw [hli] at e
                cases e
              | some li =>
                cases hb2 : betw (optV (some li)) 1 9 with
                | false =>
                  refine qn (classRow_none fun r hr' ok => ?_) _ (s16.trans s7)
                  have e := (hrow r hr').2.2.1
                  rw [hli] at e
                  have e := Option.some.inj e
                  have h := rowOk_iff.mp ok
                  have : betw (.int li) 1 9 = true := betw_int.mpr ⟨by omega, by omega⟩
                  rw [show betw (.int li) 1 9 = betw (optV (some li)) 1 9 from rfl, hb2] at this
                  cases this
                | true =>
                  refine ⟨_, rfl, _, rfl, _, rfl, _, _, rfl, rfl, _, _, _, rfl, li, li + 3, rfl, rfl, optV_kn _, _, rfl, ?_⟩
                  cases hmi : wholeIn m with
                  | none =>
                    refine qn (classRow_none fun r hr' ok => ?_) _ (s16.trans s7)
                    have e := (hrow r hr').2.2.2.1
                    rw [hmi] at e
                    cases e
                  | some mi =>
                    cases hb3 : betw (optV (some mi)) li (li + 3) with
                    | false =>
                      refine qn (classRow_none fun r hr' ok => ?_) _ (s16.trans s7)
                      have e := (hrow r hr').2.2.2.1
                      rw [hmi] at e
                      have e := Option.some.inj e
                      have e1 := (hrow r hr').2.2.1
                      rw [hli] at e1
                      have e1 := Option.some.inj e1
                      have h := rowOk_iff.mp ok
                      have : betw (.int mi) li (li + 3) = true := betw_int.mpr ⟨by omega, by omega⟩
                      rw [show betw (.int mi) li (li + 3) = betw (optV (some mi)) li (li + 3) from rfl, hb3] at this
                      cases this
                    | true =>
                      have b1 := betw_int.mp (show betw (.int fi) 0 last = true from hb)
                      have b2 := betw_int.mp (show betw (.int li) 1 9 = true from hb2)
                      have b3 := betw_int.mp (show betw (.int mi) li (li + 3) = true from hb3)
                      have hR := hmk fi li mi ns hf hli hmi hns
                      have hW7 : H7 W = some (.lst ((w0 :: nm :: f :: l :: m :: s0 :: ss).map V.str)) := (s16.trans s7) _ _ hW
                      refine ⟨_, rfl, W, _, _, V.str nm, rfl, rfl, SqL.of hW7, atI_nat (j := 1) rfl, _, rfl, _, rfl, _, rfl, (by show 2 ≤ sizeLine; decide), fun t8 ht8 => ?_⟩
                      refine ⟨_, rfl, fun x dx hx hdx ne => ?_⟩
                      have hn8 : x ≠ t8 := fun e => by rw [e, upd_same] at hx; cases hx
                      have hn8' : dx ≠ t8 := fun e => by rw [e, upd_same] at hdx; cases hdx
                      refine ⟨_, _, _, _, _, rfl, x, dx, rfl, upd_same, fun H9 o9 h9 => ⟨rfl, ?_⟩⟩
                      have ht7 : H7 t6 = some (.tup (ns.map V.int)) := by
                        rw [s7 _ _ ht6', intsOf_some hns, List.map_map]
                        rfl
                      have s9 : Same H7 H9 := fun b o hb => by
                        have n1 : b ≠ t8 := ne_of_none hb ht8
                        have n2 : b ≠ x := fun e => by rw [e] at hb; rw [upd_ne hn8, hb] at hx; cases hx
                        have n3 : b ≠ dx := fun e => by rw [e] at hb; rw [upd_ne hn8', hb] at hdx; cases hdx
                        rw [o9 b n2, upd_ne n2, upd_ne n3, upd_ne n1]
                        exact hb
                      refine qs _ (hcs _ hR (rowOk_iff.mpr ⟨hnm, b1.1, hok, by show fi + (ns.length : Int) - 1 ≤ last; omega, b2.1, b2.2, b3.1, b3.2⟩)) _ _ (s16.trans (s7.trans s9)) ⟨x, dx, t8, t6, rfl, h9, ?_, s9 _ _ ht7⟩
                      rw [o9 t8 (Ne.symm hn8), upd_ne (Ne.symm hn8), upd_ne (Ne.symm hn8'), upd_same]
                      rfl
end
end SK
set_option maxHeartbeats 4000000
namespace SL
open PySem PySem.Spec PyProof.Rows L2
structure RSt where
  sort : Str
  last : Int
  rows : List Row
  beside : List (Nat × Nat)
  far : List ((Nat × Nat) × Int)
def pairD (p : Nat × Nat) : PyData := .tuple [.int p.1, .int p.2]
def farD (p : (Nat × Nat) × Int) : PyData := .tuple [pairD p.1, .int p.2]
theorem pairD_fz (l : List (Nat × Nat)) : fzAll (l.map pairD) = true := fzAll_iff.mpr fun d hd => by
  obtain ⟨p, _, rfl⟩ := List.mem_map.mp hd
  simp [pairD, fz, fzAll]
theorem farD_fz (l : List ((Nat × Nat) × Int)) : fzAll (l.map farD) = true := fzAll_iff.mpr fun d hd => by
  obtain ⟨p, _, rfl⟩ := List.mem_map.mp hd
  simp [farD, pairD, fz, fzAll]
def RowsAt (C : Addr) (H : Hp) (vs : List V) (rs : List Row) : Prop := Paired (RowAt C H) vs rs
theorem RowsAt.same {C : Addr} {H H' : Hp} (s : Same H H') {vs : List V} {rs : List Row} (h : RowsAt C H vs rs) : RowsAt C H' vs rs := Paired.mono (fun _ _ x => RowAt.same s x) h
def NotRow (o : HO) : Prop := (∀ xs, o ≠ .tup xs) ∧ ∀ C dx n r, o ≠ .ins C dx (("own_name", n) :: r)
theorem NotRow.lst (xs : List V) : NotRow (.lst xs) := ⟨fun _ h => (nomatch h), fun _ _ _ _ h => (nomatch h)⟩
theorem NotRow.rd {C dx : Addr} {v : V} {r : List (Str × V)} : NotRow (.ins C dx (("own_sort", v) :: r)) := ⟨fun _ h => (nomatch h), fun C dx n r h => by
  have h1 := (HO.ins.inj h).2.2
  have h2 := congrArg Prod.fst (List.cons.inj h1).1
  exact absurd h2 (show ("own_sort" : Str) ≠ "own_name" by decide)⟩
theorem RowAt.upd {C p : Addr} {H : Hp} {o o' : HO} {v : V} {r : Row} (h : RowAt C H v r) (hp : H p = some o) (ho : NotRow o) : RowAt C (L2.upd H p o') v r := by
  obtain ⟨c, dx, t1, t2, e, h1, h2, h3⟩ := h
  have n1 : c ≠ p := fun z => by rw [z, hp] at h1; exact ho.2 _ _ _ _ (Option.some.inj h1)
  have n2 : t1 ≠ p := fun z => by rw [z, hp] at h2; exact ho.1 _ (Option.some.inj h2)
  have n3 : t2 ≠ p := fun z => by rw [z, hp] at h3; exact ho.1 _ (Option.some.inj h3)
  exact ⟨c, dx, t1, t2, e, by rw [upd_ne n1]; exact h1, by rw [upd_ne n2]; exact h2, by rw [upd_ne n3]; exact h3⟩
theorem RowsAt.upd {C p : Addr} {H : Hp} {o o' : HO} {vs : List V} {rs : List Row} (h : RowsAt C H vs rs) (hp : H p = some o) (ho : NotRow o) : RowsAt C (L2.upd H p o') vs rs := Paired.mono (fun _ _ x => RowAt.upd x hp ho) h
theorem RowsAt.get {C : Addr} {H : Hp} : ∀ {vs : List V} {rs : List Row} {i : Nat} {v : V}, RowsAt C H vs rs → vs[i]? = some v → ∃ r, rs[i]? = some r ∧ RowAt C H v r
  | _, _, 0, v, .cons h r, e => by
    have := Option.some.inj (show some _ = some _ from e)
    subst this
    exact ⟨_, rfl, h⟩
  | _, _, i + 1, v, .cons h r, e => by
    obtain ⟨x, e1, e2⟩ := RowsAt.get r (i := i) (by simpa using e)
    exact ⟨x, by simpa using e1, e2⟩
theorem RowsAt.len {C : Addr} {H : Hp} {vs : List V} {rs : List Row} (h : RowsAt C H vs rs) : vs.length = rs.length := Paired.length h
structure RAt (CR CW : Addr) (H : Hp) (r dx a1 a2 a3 : Addr) (st : RSt) : Prop where
  obj : H r = some (.ins CR dx [("own_sort", .str st.sort), ("own_last", .int st.last), ("own_rows", .ref a1), ("own_beside", .ref a2), ("own_far", .ref a3)])
  rows : ∃ vs, H a1 = some (.lst vs) ∧ RowsAt CW H vs st.rows
  beside : ∃ vs, H a2 = some (.lst vs) ∧ RvL H vs (st.beside.map pairD)
  far : ∃ vs, H a3 = some (.lst vs) ∧ RvL H vs (st.far.map farD)
  d12 : a1 ≠ a2
  d13 : a1 ≠ a3
  d23 : a2 ≠ a3
def Rk (r a1 a2 a3 : Addr) (H H' : Hp) : Prop := ∀ b o, b ≠ r → b ≠ a1 → b ≠ a2 → b ≠ a3 → H b = some o → H' b = some o
theorem Rk.of {r a1 a2 a3 : Addr} {H H' : Hp} (s : Same H H') : Rk r a1 a2 a3 H H' := fun b o _ _ _ _ h => s b o h
theorem Rk.trans {r a1 a2 a3 : Addr} {H H1 H2 : Hp} (a : Rk r a1 a2 a3 H H1) (b : Rk r a1 a2 a3 H1 H2) : Rk r a1 a2 a3 H H2 := fun c o h1 h2 h3 h4 h => b c o h1 h2 h3 h4 (a c o h1 h2 h3 h4 h)
section
variable {CR CW r dx a1 a2 a3 : Addr} {H H' : Hp} {st : RSt}
theorem RAt.same (s : Same H H') (h : RAt CR CW H r dx a1 a2 a3 st) : RAt CR CW H' r dx a1 a2 a3 st := by
  obtain ⟨h1, ⟨v1, h2, h2'⟩, ⟨v2, h3, h3'⟩, ⟨v3, h4, h4'⟩, d1, d2, d3⟩ := h
  exact ⟨s _ _ h1, ⟨v1, s _ _ h2, h2'.same s⟩, ⟨v2, s _ _ h3, h3'.same s⟩, ⟨v3, s _ _ h4, h4'.same s⟩, d1, d2, d3⟩
theorem RAt.n1 (h : RAt CR CW H r dx a1 a2 a3 st) : a1 ≠ r := by
  obtain ⟨vs, h2, _⟩ := h.rows
  exact ne_of h2 h.obj fun z => nomatch z
theorem RAt.n2 (h : RAt CR CW H r dx a1 a2 a3 st) : a2 ≠ r := by
  obtain ⟨vs, h2, _⟩ := h.beside
  exact ne_of h2 h.obj fun z => nomatch z
theorem RAt.n3 (h : RAt CR CW H r dx a1 a2 a3 st) : a3 ≠ r := by
  obtain ⟨vs, h2, _⟩ := h.far
  exact ne_of h2 h.obj fun z => nomatch z
theorem RAt.setObj {sort : Str} {last : Int} (h : RAt CR CW H r dx a1 a2 a3 st) :
    RAt CR CW (upd H r (.ins CR dx [("own_sort", .str sort), ("own_last", .int last), ("own_rows", .ref a1), ("own_beside", .ref a2), ("own_far", .ref a3)])) r dx a1 a2 a3 { st with sort := sort, last := last } := by
  have n1 := h.n1
  have n2 := h.n2
  have n3 := h.n3
  obtain ⟨h1, ⟨v1, h2, h2'⟩, ⟨v2, h3, h3'⟩, ⟨v3, h4, h4'⟩, d1, d2, d3⟩ := h
  have tk : Tk H (upd H r (.ins CR dx [("own_sort", .str sort), ("own_last", .int last), ("own_rows", .ref a1), ("own_beside", .ref a2), ("own_far", .ref a3)])) := Tk.upd fun xs e => by rw [h1] at e; cases e
  exact ⟨upd_same, ⟨v1, by rw [upd_ne n1]; exact h2, h2'.upd h1 NotRow.rd⟩, ⟨v2, by rw [upd_ne n2]; exact h3, h3'.tk tk (pairD_fz _)⟩, ⟨v3, by rw [upd_ne n3]; exact h4, h4'.tk tk (farD_fz _)⟩, d1, d2, d3⟩
theorem RAt.addRow {v : V} {row : Row} {vs : List V} (h : RAt CR CW H r dx a1 a2 a3 st) (hv : H a1 = some (.lst vs)) (hr : RowAt CW H v row) :
    RAt CR CW (upd H a1 (.lst (vs ++ [v]))) r dx a1 a2 a3 { st with rows := st.rows ++ [row] } := by
  have n1 := h.n1
  obtain ⟨h1, ⟨v1, h2, h2'⟩, ⟨v2, h3, h3'⟩, ⟨v3, h4, h4'⟩, d1, d2, d3⟩ := h
  have e : v1 = vs := by
    rw [h2] at hv
    exact HO.lst.inj (Option.some.inj hv)
  subst e
  have tk : Tk H (upd H a1 (.lst (v1 ++ [v]))) := Tk.updL h2
  exact ⟨by rw [upd_ne (Ne.symm n1)]; exact h1, ⟨_, upd_same, (h2'.upd h2 (.lst _)).snoc (hr.upd h2 (.lst _))⟩, ⟨v2, by rw [upd_ne (Ne.symm d1)]; exact h3, h3'.tk tk (pairD_fz _)⟩, ⟨v3, by rw [upd_ne (Ne.symm d2)]; exact h4, h4'.tk tk (farD_fz _)⟩, d1, d2, d3⟩
theorem RAt.addBeside {v : V} {p : Nat × Nat} {vs : List V} (h : RAt CR CW H r dx a1 a2 a3 st) (hv : H a2 = some (.lst vs)) (hr : Rv H v (pairD p)) :
    RAt CR CW (upd H a2 (.lst (vs ++ [v]))) r dx a1 a2 a3 { st with beside := st.beside ++ [p] } := by
  have n2 := h.n2
  obtain ⟨h1, ⟨v1, h2, h2'⟩, ⟨v2, h3, h3'⟩, ⟨v3, h4, h4'⟩, d1, d2, d3⟩ := h
  have e : v2 = vs := by
    rw [h3] at hv
    exact HO.lst.inj (Option.some.inj hv)
  subst e
  have tk : Tk H (upd H a2 (.lst (v2 ++ [v]))) := Tk.updL h3
  refine ⟨by rw [upd_ne (Ne.symm n2)]; exact h1, ⟨_, by rw [upd_ne d1]; exact h2, h2'.upd h3 (.lst _)⟩, ⟨_, upd_same, ?_⟩, ⟨v3, by rw [upd_ne (Ne.symm d3)]; exact h4, h4'.tk tk (farD_fz _)⟩, d1, d2, d3⟩
  rw [List.map_append]
  exact (h3'.tk tk (pairD_fz _)).snoc (hr.tk tk (by simp [pairD, fz, fzAll]))
theorem RAt.addFar {v : V} {p : (Nat × Nat) × Int} {vs : List V} (h : RAt CR CW H r dx a1 a2 a3 st) (hv : H a3 = some (.lst vs)) (hr : Rv H v (farD p)) :
    RAt CR CW (upd H a3 (.lst (vs ++ [v]))) r dx a1 a2 a3 { st with far := st.far ++ [p] } := by
  have n3 := h.n3
  obtain ⟨h1, ⟨v1, h2, h2'⟩, ⟨v2, h3, h3'⟩, ⟨v3, h4, h4'⟩, d1, d2, d3⟩ := h
  have e : v3 = vs := by
    rw [h4] at hv
    exact HO.lst.inj (Option.some.inj hv)
  subst e
  have tk : Tk H (upd H a3 (.lst (v3 ++ [v]))) := Tk.updL h4
  refine ⟨by rw [upd_ne (Ne.symm n3)]; exact h1, ⟨_, by rw [upd_ne d2]; exact h2, h2'.upd h4 (.lst _)⟩, ⟨v2, by rw [upd_ne d3]; exact h3, h3'.tk tk (pairD_fz _)⟩, ⟨_, upd_same, ?_⟩, d1, d2, d3⟩
  rw [List.map_append]
  exact (h4'.tk tk (farD_fz _)).snoc (hr.tk tk (by simp [farD, pairD, fz, fzAll]))
end
theorem inV_str (z : Str) : ∀ ns : List Str, inV (.str z) (ns.map V.str) = decide (z ∈ ns)
  | [] => by simp [inV]
  | n :: ns => by
    have ih := inV_str z ns
    unfold inV at ih ⊢
    rw [List.map_cons, List.any_cons, ih]
    show ((n == z) || _) = _
    by_cases h : n = z
    · subst h
      simp
    · rw [beq_eq_false_iff_ne.mpr h, Bool.false_or]
      simp [Ne.symm h]
theorem flat_strs (ns : List Str) : (ns.map V.str).all flatV = true := by
  rw [List.all_map]
  exact List.all_eq_true.mpr fun _ _ => rfl
theorem idx_str {ns : List Str} {z : Str} (h : z ∈ ns) : (ns.map V.str)[ns.idxOf z]? = some (V.str z) ∧ eqV (V.str z) (V.str z) = true ∧ ∀ (m : Nat) (z' : V), m < ns.idxOf z → (ns.map V.str)[m]? = some z' → eqV z' (V.str z) = false := by
  refine ⟨?_, beq_self_eq_true z, fun m z' hm he => ?_⟩
  · have hlt := List.idxOf_lt_length_of_mem h
    have e : ns[ns.idxOf z]'hlt = z := by
      have := List.findIdx_getElem (p := (· == z)) (xs := ns) (w := hlt)
      exact beq_iff_eq.mp this
    rw [List.getElem?_map, List.getElem?_eq_getElem hlt, e]
    rfl
  · rw [List.getElem?_map] at he
    obtain ⟨y, hy, rfl⟩ := Option.map_eq_some_iff.mp he
    show (y == z) = false
    refine beq_eq_false_iff_ne.mpr fun e => ?_
    subst e
    have hlt := List.idxOf_lt_length_of_mem h
    have := List.not_of_lt_findIdx (p := (· == y)) (xs := ns) (i := m) hm
    have e2 : ns[m]'(by omega) = y := by
      have := List.getElem?_eq_getElem (l := ns) (i := m) (by omega)
      rw [hy] at this
      exact (Option.some.inj this).symm
    rw [e2] at this
    simp at this
def pairOf (ns : List Str) (a b : Str) : Option (Nat × Nat) := if a ∈ ns ∧ b ∈ ns then (if ns.idxOf a ≤ ns.idxOf b then some (ns.idxOf a, ns.idxOf b) else none) else none
theorem lc_rows {K : PySem.W.Frag} {C W : Addr} {vs : List V} {rs : List Row} {g : TG} {tt : TT} {te : TE} {ow : List Nat} {σ : L2.St} {H1 : Hp} {D : Addr} {Qd : Hp → Prop} (hD : H1 D = none) (hW : H1 W = some (.lst vs)) (hR : RowsAt C H1 vs rs) (hn : rs.length ≤ sizeLine)
    (hs : ∀ v r H (Ky : V → Hp → Prop) (Kn : Hp → Prop), Same H1 H → RowAt C H v r → Ky (.str r.name) H → g v (wipe σ ow) H fun σ2 H2 => wipe σ2 ow = wipe σ ow ∧ tt σ2 H2 fun b H3 => if b = true then te σ2 H3 Ky else Kn H3)
    (hd : ∀ H, Same H1 H → H D = some (.lst ((rs.map (·.name)).map V.str)) → Qd H) :
    ∃ W' : Nat → Nat → Hp → Prop, (∃ m, W' 0 m (upd H1 D (.lst []))) ∧ ∀ i m H, W' i m H →
      ((Itl K W).stop i H ∧ Qd H) ∨ ((Itl K W).go i H ∧ ∃ Nx : Hp → Prop, (∀ H', Nx H' → ∃ m', m' < m ∧ W' (i + 1) m' H') ∧ ∀ x H', (Itl K W).yld i H x H' → g x (wipe σ ow) H' fun σ2 H2 => wipe σ2 ow = wipe σ ow ∧ tt σ2 H2 fun b H3 =>
        if b = true then te σ2 H3 fun y H4 => ∃ acc, H4 D = some (.lst acc) ∧ acc.length < sizeLine ∧ Nx (upd H4 D (.lst (acc ++ [y]))) else Nx H3) := by
  refine lc_fm (walk_list (xs := vs)) (fun i => some ((rs[i]?.map fun r => V.str r.name).getD .non)) hD (by rw [hR.len]; exact hn) (fun H s => SqL.of (s _ _ hW)) ?_ (fun H s h => hd H s ?_)
  · rintro i x H H' Ky Kn hi s1 ⟨rfl, hx⟩ k _
    obtain ⟨r, hr, hra⟩ := hR.get hx
    refine hs x r H' Ky Kn s1 (hra.same s1) (k _ _ ?_ (Same.refl _))
    rw [hr]
    rfl
  · rw [h, fm_some, hR.len, map_get rs (fun r => V.str r.name), List.map_map]
    rfl
end SL
namespace SK
open PySem PySem.Spec PyProof.Rows L2 SL
section
variable {w : World} {K : PySem.W.Frag} {mg : Str → Option Value} {base : Heap}
abbrev cRd (K : PySem.W.Frag) : Addr := He.ga K "Reader"
def st0 : RSt := ⟨"", 0, [], [], []⟩
def spRdInit (K : PySem.W.Frag) : Sp := sp1 fun self H Q _ => ∃ r dx, self = .ref r ∧ H r = some (.ins (cRd K) dx []) ∧
  ∀ H' a1 a2 a3, (∀ b o, b ≠ r → H b = some o → H' b = some o) → H a1 = none → H a2 = none → H a3 = none → RAt (cRd K) (cRow K) H' r dx a1 a2 a3 st0 → Q .non H'
abbrev n_Reader_init : List Str := ["self"]
theorem sc_Reader_init : FnScope n_Reader_init ["self"] (defScope d_Reader_init) := ⟨rfl, rfl, rfl, by decide +kernel, rfl, by decide +kernel, by decide +kernel⟩
theorem ok_Reader_init (T : Top w K mg) : Has prg w K mg base CX0 1 (He.ma K (He.ga K "Reader") "__init__") ["self"] (spRdInit K) := by
  obtain ⟨fd, F⟩ := T.F_Reader_init
  refine ⟨fd, F.ok (k := 0) sc_Reader_init (fun _ _ _ _ h => sp1_len h) (fun cdv A outer s H vs Q E hr h => ?_), F.bindsN (fun _ _ _ _ _ _ us hl => match us, hl with | [_], _ => rfl), F.kp⟩
  obtain ⟨v0, rfl, h⟩ := h
  refine ⟨_, PSs.nox (pss_cons (ps_fld (pv 0) pe_str rfl)
    (pss_cons (ps_fld (pv 0) pe_int rfl)
    (pss_cons (ps_fld (pv 0) (pe_lst pa_nil) rfl)
    (pss_cons (ps_fld (pv 0) (pe_lst pa_nil) rfl)
    (pss_one (ps_fld (pv 0) (pe_lst pa_nil) rfl)))))), ?_⟩
  obtain ⟨r, dx, rfl, hr', q⟩ := h
  refine ⟨_, rfl, r, _, dx, _, rfl, hr', T.cl_Reader, T.na_Reader_own_sort, by decide, ?_⟩
  refine ⟨_, rfl, r, _, dx, _, rfl, upd_same, T.cl_Reader, T.na_Reader_own_last, by show 1 < 1000; decide, ?_⟩
  refine ⟨(by show 0 ≤ sizeLine; decide), fun a1 h1 => ?_⟩
  have n1 : a1 ≠ r := fun e => by rw [e, upd_same] at h1; cases h1
  refine ⟨_, rfl, r, _, dx, _, rfl, by rw [upd_ne (Ne.symm n1), upd_same], T.cl_Reader, T.na_Reader_own_rows, by show 2 < 1000; decide, ?_⟩
  refine ⟨(by show 0 ≤ sizeLine; decide), fun a2 h2 => ?_⟩
  have n2 : a2 ≠ r := fun e => by rw [e, upd_same] at h2; cases h2
  rw [upd_ne n2] at h2
  have d12 : a2 ≠ a1 := fun e => by rw [e, upd_same] at h2; cases h2
  refine ⟨_, rfl, r, _, dx, _, rfl, by rw [upd_ne (Ne.symm n2), upd_same], T.cl_Reader, T.na_Reader_own_beside, by show 3 < 1000; decide, ?_⟩
  refine ⟨(by show 0 ≤ sizeLine; decide), fun a3 h3 => ?_⟩
  have n3 : a3 ≠ r := fun e => by rw [e, upd_same] at h3; cases h3
  rw [upd_ne n3] at h3
  have d13 : a3 ≠ a2 := fun e => by rw [e, upd_same] at h3; cases h3
  rw [upd_ne d13, upd_ne n3] at h3
  have d14 : a3 ≠ a1 := fun e => by rw [e, upd_same] at h3; cases h3
  refine ⟨_, rfl, r, _, dx, _, rfl, by rw [upd_ne (Ne.symm n3), upd_same], T.cl_Reader, T.na_Reader_own_far, by show 4 < 1000; decide, ?_⟩
  rw [upd_ne d12, upd_ne n2, upd_ne n2] at h2
  rw [upd_ne d14, upd_ne n3, upd_ne n3] at h3
  rw [upd_ne n1, upd_ne n1] at h1
  refine q _ a1 a2 a3 (fun b o hb e => ?_) h1 h2 h3 ⟨upd_same, ⟨[], ?_, .nil⟩, ⟨[], ?_, .nil⟩, ⟨[], ?_, .nil⟩, Ne.symm d12, Ne.symm d14, Ne.symm d13⟩
  · rw [upd_ne hb, upd_ne (ne_of_none e h3), upd_ne hb, upd_ne (ne_of_none e h2), upd_ne hb, upd_ne (ne_of_none e h1), upd_ne hb, upd_ne hb]
    exact e
  · rw [upd_ne n1, upd_ne (Ne.symm d14), upd_ne n1, upd_ne (Ne.symm d12), upd_ne n1, upd_same]
  · rw [upd_ne n2, upd_ne (Ne.symm d13), upd_ne n2, upd_same]
  · rw [upd_ne n3, upd_same]
def spPairOf (K : PySem.W.Frag) : Sp := sp2 fun self wv H Q _ => ∃ r dx a1 a2 a3 st W a b, self = .ref r ∧ wv = .ref W ∧ RAt (cRd K) (cRow K) H r dx a1 a2 a3 st ∧ H W = some (.lst [.str a, .str b]) ∧ st.rows.length ≤ 1000 ∧
  (pairOf (st.rows.map (·.name)) a b = none → ∀ H', Same H H' → Q .non H') ∧ (∀ p, pairOf (st.rows.map (·.name)) a b = some p → ∀ H' t, Same H H' → H' t = some (.tup [.int p.1, .int p.2]) → Q (.ref t) H')
abbrev n_Reader_pair_of : List Str := ["self", "words", "names", "one", "other", "row", "word"]
theorem sc_Reader_pair_of : FnScope n_Reader_pair_of ["self", "words"] (defScope d_Reader_pair_of) := ⟨rfl, rfl, rfl, by decide +kernel, rfl, by decide +kernel, by decide +kernel⟩
theorem ok_Reader_pair_of (T : Top w K mg) : Has prg w K mg base CX0 1 (He.ma K (He.ga K "Reader") "pair_of") ["self", "words"] (spPairOf K) := by
  obtain ⟨fd, F⟩ := T.F_Reader_pair_of
  refine ⟨fd, F.ok (k := 0) sc_Reader_pair_of (fun _ _ _ _ h => sp2_len h) (fun cdv A outer s H vs Q E hr h => ?_), F.bindsN (fun _ _ _ _ _ _ us hl => match us, hl with | [_, _], _ => rfl), F.kp⟩
  obtain ⟨v0, v1, rfl, h⟩ := h
  refine ⟨_, PSs.nox (pss_cons (ps_set (i := 2) sc_Reader_pair_of.nd rfl (Or.inr rfl) (pe_lc (own := [("row", 5)]) (g := gName 5) (by rfl) sc_Reader_pair_of.nd (pi_list (pe_fld (pv 0) rfl)) (blkOk_by (N := n_Reader_pair_of) (sc := defScope d_Reader_pair_of) (own := [("row", 5)]) (by decide +kernel)) (fun _ _ _ _ _ => (pg_name (i := 5) sc_Reader_pair_of.nd rfl (Or.inl rfl) (.inr rfl))) (fun _ _ _ _ _ => pts_nil) (fun _ _ _ _ _ => (pe_fldK (K := K) rfl (pv 5) rfl))))
    (pss_cons (ps_if (pt_not (pt_val (pe_callB (cr_all rfl) (by rfl) T.b_all (by decide +kernel) (pa_cons (pe_lc (own := [("word", 6)]) (g := gName 6) (by rfl) sc_Reader_pair_of.nd (pi_list (pv 1)) (blkOk_by (N := n_Reader_pair_of) (sc := defScope d_Reader_pair_of) (own := [("word", 6)]) (by decide +kernel)) (fun _ _ _ _ _ => (pg_name (i := 6) sc_Reader_pair_of.nd rfl (Or.inl rfl) (.inr rfl))) (fun _ _ _ _ _ => pts_nil) (fun _ _ _ _ _ => (pe_cmpR (op_in_seqK (K := K) rfl) (pv 6) (pv 2) (by rfl)))) pa_nil)))) (pss_one (ps_ret pe_non)) pss_nil)
    (pss_cons (ps_asg (pe_lc (own := [("word", 6)]) (g := gName 6) (by rfl) sc_Reader_pair_of.nd (pi_list (pv 1)) (blkOk_by (N := n_Reader_pair_of) (sc := defScope d_Reader_pair_of) (own := [("word", 6)]) (by decide +kernel)) (fun _ _ _ _ _ => (pg_name (i := 6) sc_Reader_pair_of.nd rfl (Or.inl rfl) (.inr rfl))) (fun _ _ _ _ _ => pts_nil) (fun _ _ _ _ _ => (pe_bmK (K := K) rfl PySem.F.plainAttrs_list PySem.F.slot_list_index PySem.F.type_list_index (mt_indexK (K := K) rfl) (pv 2) (pa_cons (pv 6) pa_nil)))) (pg_unl rfl (pgs_cons (pg_name (i := 3) sc_Reader_pair_of.nd rfl (Or.inl rfl)) (pgs_cons (pg_name (i := 4) sc_Reader_pair_of.nd rfl (Or.inl rfl)) pgs_nil))))
    (pss_one (ps_ret (pe_ifExp (pt_cmpR op_le (pv 3) (pv 4) (nomark _)) (pe_tup (pa_cons (pv 3) (pa_cons (pv 4) pa_nil))) pe_non)))))), ?_⟩
  obtain ⟨r, dx, a1, a2, a3, st, W, a, b, rfl, rfl, R, hW, hl, qn, qs⟩ := h
  obtain ⟨vs, hv, hR⟩ := R.rows
  refine ⟨_, rfl, r, _, dx, _, _, rfl, R.obj, T.cl_Reader, T.na_Reader_own_rows, rfl, a1, rfl, ⟨_, SqL.of hv⟩, fun D hD => ?_⟩
  refine lc_rows hD hv hR (Nat.le_trans hl (by decide)) ?_ ?_
  · rintro v row H1 Ky Kn s1 ⟨c, dc, t1, t2, rfl, h1, h2, h3⟩ k
    exact ⟨rfl, _, rfl, c, _, dc, _, _, rfl, h1, T.cl_ClassRow, T.na_ClassRow_own_name, rfl, k⟩
  intro H1 s1 hD1
  have hW1 := s1 _ _ hW
  generalize hns : st.rows.map (·.name) = ns at hD1 qn qs
  refine ⟨_, rfl, W, rfl, ⟨_, SqL.of hW1⟩, fun D2 hD2 => ?_⟩
  refine lc_words (ws := [a, b]) (f := fun z => V.bl (decide (z ∈ ns))) hD2 hW1 (by show 2 ≤ sizeLine; decide) ?_ ?_
  · intro z H2 Ky Kn hz s2 k
    refine ⟨rfl, _, rfl, _, rfl, D, _, rfl, .inl (SqL.of (s2 _ _ hD1)), rfl, flat_strs ns, ?_⟩
    show Ky (.bl (inV (.str z) (ns.map V.str))) H2
    rw [inV_str]
    exact k _ (Same.refl _)
  intro H2 s2 hD2'
  have hD2' : H2 D2 = some (.lst ([decide (a ∈ ns), decide (b ∈ ns)].map V.bl)) := hD2'
  refine ⟨D2, _, rfl, SqL.of hD2', _, rfl, ?_⟩
  by_cases ha : a ∈ ns
  · by_cases hb : b ∈ ns
    · rw [decide_eq_true ha, decide_eq_true hb]
      have hW2 := s2 _ _ hW1
      have hD1' := s2 _ _ hD1
      refine ⟨_, rfl, W, rfl, ⟨_, SqL.of hW2⟩, fun D3 hD3 => ?_⟩
      refine lc_words (ws := [a, b]) (f := fun z => V.int (ns.idxOf z : Nat)) hD3 hW2 (by show 2 ≤ sizeLine; decide) ?_ ?_
      · intro z H3 Ky Kn hz s3 k
        have hzn : z ∈ ns := by
          simp only [List.mem_cons, List.not_mem_nil, or_false] at hz
          rcases hz with rfl | rfl
          · exact ha
          · exact hb
        obtain ⟨i1, i2, i3⟩ := idx_str hzn
        exact ⟨rfl, _, rfl, .inl ⟨rfl, _, SqL.of (s3 _ _ hD1')⟩, _, rfl, D, _, _, _, _, rfl, rfl, SqL.of (s3 _ _ hD1'), rfl, flat_strs ns, i1, i2, i3, k _ (Same.refl _)⟩
      intro H3 s3 hD3'
      have hD3' : H3 D3 = some (.lst [V.int (ns.idxOf a : Nat), V.int (ns.idxOf b : Nat)]) := hD3'
      refine ⟨D3, _, rfl, SqL.of hD3', rfl, _, _, rfl, _, _, rfl, rfl, ?_⟩
      refine ⟨_, rfl, _, rfl, _, _, rfl, rfl, _, rfl, ?_⟩
      by_cases hle : ns.idxOf a ≤ ns.idxOf b
      · rw [decide_eq_true (show ((ns.idxOf a : Nat) : Int) ≤ (ns.idxOf b : Nat) by omega)]
        refine ⟨_, rfl, _, rfl, (by show 2 ≤ sizeLine; decide), fun t ht => ?_⟩
        refine qs (ns.idxOf a, ns.idxOf b) ?_ _ t (s1.trans (s2.trans (s3.trans (same_new ht)))) upd_same
        unfold pairOf
        rw [if_pos ⟨ha, hb⟩, if_pos hle]
      · rw [decide_eq_false (show ¬ ((ns.idxOf a : Nat) : Int) ≤ (ns.idxOf b : Nat) by omega)]
        refine qn ?_ _ (s1.trans (s2.trans s3))
        unfold pairOf
        rw [if_pos ⟨ha, hb⟩, if_neg hle]
    · rw [decide_eq_false hb]
      have e : [decide (a ∈ ns), false].all id = false := by simp
      rw [e]
      refine qn ?_ _ (s1.trans s2)
      unfold pairOf
      rw [if_neg fun z => hb z.2]
  · rw [decide_eq_false ha]
    refine qn ?_ _ (s1.trans s2)
    unfold pairOf
    rw [if_neg fun z => ha z.1]
end
end SK
set_option maxHeartbeats 4000000
namespace SL
open PySem PySem.Spec PyProof.Rows L2
def stOk (n : Nat) (st : RSt) : Prop := st.rows.length ≤ n ∧ st.beside.length ≤ n ∧ st.far.length ≤ n
def names (st : RSt) : List Str := st.rows.map (·.name)
def takeZooms (st : RSt) (ws : List Str) : Option RSt := match ws with
  | [_, a] => (wholeIn a).bind fun n => if 1 ≤ n ∧ n ≤ 5 then some { st with last := n - 1 } else none
  | _ => none
def takeClass (st : RSt) (ws : List Str) : Option RSt := (classRow ws st.last).bind fun r => if st.rows.length = 4 ∨ r.name ∈ names st then none else some { st with rows := st.rows ++ [r] }
def pairLe (p q : Nat × Nat) : Bool := if p.1 = q.1 then decide (p.2 ≤ q.2) else decide (p.1 ≤ q.1)
def takeBeside (st : RSt) (ws : List Str) : Option RSt := match ws with
  | [_, a, b] => (pairOf (names st) a b).bind fun p => if (st.beside.getLast?.any fun q => pairLe p q) then none else some { st with beside := st.beside ++ [p] }
  | _ => none
def takeFar (st : RSt) (ws : List Str) : Option RSt := match ws with
  | [_, a, b, d] => (pairOf (names st) a b).bind fun p => if (st.far.getLast?.any fun q => pairLe p q.1) then none else
      (wholeIn d).bind fun n => if 1 ≤ n ∧ n ≤ 9999 then some { st with far := st.far ++ [(p, n)] } else none
  | _ => none
theorem lex2 (p q : Nat × Nat) : Ob.lexAt (fun j => decide ([(p.1 : Int), p.2].getD j 0 = [(q.1 : Int), q.2].getD j 0)) (fun j => decide ([(p.1 : Int), p.2].getD j 0 ≤ [(q.1 : Int), q.2].getD j 0)) (decide ([(p.1 : Int), (p.2 : Int)].length ≤ [(q.1 : Int), (q.2 : Int)].length)) 0 (min [(p.1 : Int), (p.2 : Int)].length [(q.1 : Int), (q.2 : Int)].length) = pairLe p q := by
  show (if decide ((p.1 : Int) = q.1) = true then (if decide ((p.2 : Int) = q.2) = true then true else decide ((p.2 : Int) ≤ q.2)) else decide ((p.1 : Int) ≤ q.1)) = _
  unfold pairLe
  by_cases h1 : p.1 = q.1
  · rw [if_pos (decide_eq_true (by omega)), if_pos h1]
    by_cases h2 : p.2 = q.2
    · rw [if_pos (decide_eq_true (by omega)), decide_eq_true (by omega)]
    · rw [if_neg (by rw [decide_eq_true_eq]; omega)]
      exact decide_eq_decide.mpr (by omega)
  · rw [if_neg (by rw [decide_eq_true_eq]; omega), if_neg h1]
    exact decide_eq_decide.mpr (by omega)
theorem RvL.snocI {H : Hp} {d : PyData} : ∀ {ds : List PyData} {vs : List V}, RvL H vs (ds ++ [d]) → ∃ us v, vs = us ++ [v] ∧ RvL H us ds ∧ Rv H v d
  | [], vs, h => by
    cases h with
    | cons h1 h2 =>
      cases h2
      exact ⟨[], _, rfl, .nil, h1⟩
  | e :: ds, vs, h => by
    cases h with
    | cons h1 h2 =>
      obtain ⟨us, v, rfl, h3, h4⟩ := RvL.snocI h2
      exact ⟨_ :: us, v, rfl, .cons h1 h3, h4⟩
theorem RvL.last {H : Hp} {vs : List V} {ds : List PyData} {d : PyData} (h : RvL H vs ds) (e : ds.getLast? = some d) : ∃ v, atI vs (-1) = some v ∧ Rv H v d := by
  obtain ⟨ys, rfl⟩ := List.getLast?_eq_some_iff.mp e
  obtain ⟨us, v, rfl, _, h4⟩ := h.snocI
  exact ⟨v, atI_last us v, h4⟩
end SL
namespace SK
open PySem PySem.Spec PyProof.Rows L2 SL
section
variable {w : World} {K : PySem.W.Frag} {mg : Str → Option Value} {base : Heap}
def spTk (K : PySem.W.Frag) (f : RSt → List Str → Option RSt) : Sp := sp2 fun self wv H Q _ => ∃ r dx a1 a2 a3 st W ws, self = .ref r ∧ wv = .ref W ∧ RAt (cRd K) (cRow K) H r dx a1 a2 a3 st ∧ H W = some (.lst (ws.map V.str)) ∧ 
  ws.length ≤ 1000 ∧ (∀ z ∈ ws, z.length ≤ 640) ∧ stOk 1000 st ∧ (f st ws = none → ∀ H', Rk r a1 a2 a3 H H' → Q (.bl false) H') ∧ (∀ st', f st ws = some st' → ∀ H', Rk r a1 a2 a3 H H' → RAt (cRd K) (cRow K) H' r dx a1 a2 a3 st' → Q (.bl true) H')
abbrev n_Reader_take_zooms : List Str := ["self", "words", "number"]
theorem sc_Reader_take_zooms : FnScope n_Reader_take_zooms ["self", "words"] (defScope d_Reader_take_zooms) := ⟨rfl, rfl, rfl, by decide +kernel, rfl, by decide +kernel, by decide +kernel⟩
theorem ok_Reader_take_zooms (T : Top w K mg) : Has prg w K mg base CX0 3 (He.ma K (He.ga K "Reader") "take_zooms") ["self", "words"] (spTk K takeZooms) := by
  obtain ⟨fd, F⟩ := T.F_Reader_take_zooms
  obtain ⟨fd_whole_in, G_whole_in, b_whole_in, k_whole_in⟩ := ok_whole_in (base := base) T
  obtain ⟨fd_is_between, G_is_between, b_is_between, k_is_between⟩ := ok_is_between (base := base) T
  refine ⟨fd, F.ok (k := 2) sc_Reader_take_zooms (fun _ _ _ _ h => sp2_len h) (fun cdv A outer s H vs Q E hr h => ?_), F.bindsN (fun _ _ _ _ _ _ us hl => match us, hl with | [_, _], _ => rfl), F.kp⟩
  obtain ⟨v0, v1, rfl, h⟩ := h
  refine ⟨_, PSs.nox (pss_cons (ps_set (i := 2) sc_Reader_take_zooms.nd rfl (Or.inl rfl) (pe_ifExp (pt_cmpR op_eq (pe_callB call_len (by rfl) T.b_len (by decide +kernel) (pa_cons (pv 1) pa_nil)) (pe_cI (by rfl) T.c_ZOOMS_WORDS) (nomark _)) (pe_call G_whole_in (hr.mono (by decide)) (by rfl) T.g_whole_in k_whole_in b_whole_in .nil pass0 (pa_cons (pe_ix ix_list (pv 1) pe_int (fun _ _ => rfl)) pa_nil)) pe_non))
    (pss_cons (ps_if (pt_not (pt_val (pe_call G_is_between (hr.mono (by decide)) (by rfl) T.g_is_between k_is_between b_is_between .nil pass0 (pa_cons (pv 2) (pa_cons pe_int (pa_cons (pe_cI (by rfl) T.c_MOST_ZOOMS) pa_nil)))))) (pss_one (ps_ret pe_bl)) pss_nil)
    (pss_cons (ps_fld (pv 0) (pe_op op_sub (pv 2) pe_int) rfl)
    (pss_one (ps_ret pe_bl))))), ?_⟩
  obtain ⟨r, dx, a1, a2, a3, st, W, ws, rfl, rfl, R, hW, hl, hz, hst, qn, qs⟩ := h
  refine ⟨_, rfl, _, ws.length, rfl, .inl ⟨_, SqL.of hW, by rw [List.length_map]⟩, rfl, _, rfl, ?_⟩
  have nope : ∀ H', Same H H' → takeZooms st ws = none → Q (.bl false) H' := fun H' s e => qn e H' (Rk.of s)
  by_cases h2 : ws.length = 2
  · obtain ⟨w0, a, rfl⟩ : ∃ w0 a, ws = [w0, a] := by
      match ws, h2 with
      | [x, y], _ => exact ⟨x, y, rfl⟩
    refine ⟨_, rfl, W, _, _, V.str a, rfl, rfl, SqL.of hW, rfl, ?_⟩
    refine ⟨_, rfl, a, rfl, hz a (by simp), fun H1 s1 => ?_⟩
    refine ⟨_, rfl, _, _, _, rfl, 1, 5, rfl, rfl, optV_kn _, _, rfl, ?_⟩
    cases ha : wholeIn a with
    | none =>
      refine nope _ s1 ?_
      show (wholeIn a).bind _ = none
      rw [ha]
      rfl
    | some n =>
      cases hb : betw (optV (some n)) 1 5 with
      | false =>
        refine nope _ s1 ?_
        show (wholeIn a).bind _ = none
        rw [ha]
        refine if_neg fun z => ?_
        have := betw_int.mpr z
        rw [show betw (.int n) 1 5 = betw (optV (some n)) 1 5 from rfl, hb] at this
        cases this
      | true =>
        have hb' := betw_int.mp (show betw (.int n) 1 5 = true from hb)
        have R1 := R.same s1
        refine ⟨_, rfl, _, _, rfl, rfl, _, rfl, r, _, dx, _, rfl, R1.obj, T.cl_Reader, T.na_Reader_own_last, by show 5 < 1000; decide, ?_⟩
        refine qs _ (show (wholeIn a).bind _ = _ by rw [ha]; exact if_pos hb') _ (fun b o n1 _ _ _ hb => ?_) R1.setObj
        rw [upd_ne n1]
        exact s1 _ _ hb
  · have e : V.int ((ws.length : Nat) : Int) ≠ V.int 2 := fun z => h2 (by have := V.int.inj z; omega)
    rw [decide_eq_false e]
    refine ⟨_, rfl, _, _, _, rfl, 1, 5, rfl, rfl, ⟨_, .non⟩, _, rfl, ?_⟩
    refine nope _ (Same.refl _) ?_
    unfold takeZooms
    split
    · exact absurd rfl h2
    · rfl
abbrev n_Reader_take_class : List Str := ["self", "words", "row", "one"]
theorem sc_Reader_take_class : FnScope n_Reader_take_class ["self", "words"] (defScope d_Reader_take_class) := ⟨rfl, rfl, rfl, by decide +kernel, rfl, by decide +kernel, by decide +kernel⟩
theorem ok_Reader_take_class (T : Top w K mg) : Has prg w K mg base CX0 5 (He.ma K (He.ga K "Reader") "take_class") ["self", "words"] (spTk K takeClass) := by
  obtain ⟨fd, F⟩ := T.F_Reader_take_class
  obtain ⟨fd_class_row, G_class_row, b_class_row, k_class_row⟩ := ok_class_row (base := base) T
  refine ⟨fd, F.ok (k := 4) sc_Reader_take_class (fun _ _ _ _ h => sp2_len h) (fun cdv A outer s H vs Q E hr h => ?_), F.bindsN (fun _ _ _ _ _ _ us hl => match us, hl with | [_, _], _ => rfl), F.kp⟩
  obtain ⟨v0, v1, rfl, h⟩ := h
  refine ⟨_, PSs.nox (pss_cons (ps_set (i := 2) sc_Reader_take_class.nd rfl (Or.inl rfl) (pe_call G_class_row (hr.mono (by decide)) (by rfl) T.g_class_row k_class_row b_class_row .nil pass0 (pa_cons (pv 1) (pa_cons (pe_fld (pv 0) rfl) pa_nil))))
    (pss_cons (ps_if (PW.pt (pw_or (pt_cmpR op_isN (pv 2) pe_non (nomark _)) (pw_or (pt_cmpR op_eq (pe_callB call_len (by rfl) T.b_len (by decide +kernel) (pa_cons (pe_fld (pv 0) rfl) pa_nil)) (pe_cI (by rfl) T.c_MOST_CLASSES) (nomark _)) (pw_or1 (pt_cmpR op_in_seq (pe_fld (pv 2) rfl) (pe_lc (own := [("one", 3)]) (g := gName 3) (by rfl) sc_Reader_take_class.nd (pi_list (pe_fld (pv 0) rfl)) (blkOk_by (N := n_Reader_take_class) (sc := defScope d_Reader_take_class) (own := [("one", 3)]) (by decide +kernel)) (fun _ _ _ _ _ => (pg_name (i := 3) sc_Reader_take_class.nd rfl (Or.inl rfl) (.inr rfl))) (fun _ _ _ _ _ => pts_nil) (fun _ _ _ _ _ => (pe_fldK (K := K) rfl (pv 3) rfl))) (by rfl)))))) (pss_one (ps_ret pe_bl)) pss_nil)
    (pss_cons (ps_expr (pe_bm PySem.F.plainAttrs_list PySem.F.slot_list_append PySem.F.type_list_append mt_append (pe_fld (pv 0) rfl) (pa_cons (pv 2) pa_nil)))
    (pss_one (ps_ret pe_bl))))), ?_⟩
  obtain ⟨r, dx, a1, a2, a3, st, W, ws, rfl, rfl, R, hW, hl, hz, hst, qn, qs⟩ := h
  refine ⟨_, rfl, _, rfl, r, _, dx, _, _, rfl, R.obj, T.cl_Reader, T.na_Reader_own_last, rfl, ?_⟩
  refine ⟨_, _, rfl, W, ws, st.last, rfl, rfl, hW, hl, hz, fun hcr H1 s1 => ?_, fun row hcr H1 v s1 hra => ?_⟩
  · refine ⟨_, rfl, rfl, _, rfl, ?_⟩
    refine qn ?_ _ (Rk.of s1)
    unfold takeClass
    rw [hcr]
    rfl
  · obtain ⟨c, dc, t1, t2, rfl, h1, h2, h3⟩ := id hra
    have R1 := R.same s1
    obtain ⟨vs, hv, hR⟩ := R1.rows
    refine ⟨_, rfl, rfl, _, rfl, ?_⟩
    refine ⟨_, rfl, r, _, dx, _, _, rfl, R1.obj, T.cl_Reader, T.na_Reader_own_rows, rfl, _, vs.length, rfl, .inl ⟨_, SqL.of hv, rfl⟩, rfl, _, rfl, ?_⟩
    have hlen := hR.len
    by_cases h4 : st.rows.length = 4
    · rw [decide_eq_true (show V.int ((vs.length : Nat) : Int) = V.int 4 by rw [hlen, h4]; rfl)]
      refine qn ?_ _ (Rk.of s1)
      unfold takeClass
      rw [hcr]
      exact if_pos (.inl h4)
    · rw [decide_eq_false (show V.int ((vs.length : Nat) : Int) ≠ V.int 4 from fun z => h4 (by have := V.int.inj z; omega))]
      refine ⟨_, rfl, c, _, dc, _, _, rfl, h1, T.cl_ClassRow, T.na_ClassRow_own_name, rfl, ?_⟩
      refine ⟨_, rfl, r, _, dx, _, _, rfl, R1.obj, T.cl_Reader, T.na_Reader_own_rows, rfl, a1, rfl, ⟨_, SqL.of hv⟩, fun D hD => ?_⟩
      refine lc_rows hD hv hR (Nat.le_trans hst.1 (by decide)) ?_ ?_
      · rintro v row H2 Ky Kn s2 ⟨c, dc, t1, t2, rfl, h1, h2, h3⟩ k
        exact ⟨rfl, _, rfl, c, _, dc, _, _, rfl, h1, T.cl_ClassRow, T.na_ClassRow_own_name, rfl, k⟩
      intro H2 s2 hD2
      refine ⟨D, _, rfl, .inl (SqL.of hD2), rfl, flat_strs _, _, rfl, ?_⟩
      show if (inV (.str row.name) ((st.rows.map (·.name)).map V.str)) = true then _ else _
      rw [inV_str]
      by_cases hm : row.name ∈ st.rows.map (·.name)
      · rw [decide_eq_true hm]
        refine qn ?_ _ (Rk.of (s1.trans s2))
        unfold takeClass
        rw [hcr]
        exact if_pos (.inr hm)
      · rw [decide_eq_false hm]
        have R2 := R1.same s2
        have hv2 := s2 _ _ hv
        refine ⟨_, rfl, r, _, dx, _, _, rfl, R2.obj, T.cl_Reader, T.na_Reader_own_rows, rfl, .inl ⟨rfl, _, SqL.of hv2⟩, _, rfl, a1, _, _, rfl, rfl, hv2, ?_, ?_⟩
        · rw [hlen]
          exact Nat.lt_of_le_of_lt hst.1 (by decide)
        · refine qs _ ?_ _ (fun b o _ n1 _ _ hb => ?_) (R2.addRow hv2 (hra.same s2))
          · unfold takeClass
            rw [hcr]
            exact if_neg fun z => z.elim h4 hm
          · rw [upd_ne n1]
            exact s2 _ _ (s1 _ _ hb)
abbrev n_Reader_take_beside : List Str := ["self", "words", "pair"]
theorem sc_Reader_take_beside : FnScope n_Reader_take_beside ["self", "words"] (defScope d_Reader_take_beside) := ⟨rfl, rfl, rfl, by decide +kernel, rfl, by decide +kernel, by decide +kernel⟩
theorem ok_Reader_take_beside (T : Top w K mg) : Has prg w K mg base CX0 2 (He.ma K (He.ga K "Reader") "take_beside") ["self", "words"] (spTk K takeBeside) := by
  obtain ⟨fd, F⟩ := T.F_Reader_take_beside
  obtain ⟨fd_Reader_pair_of, G_Reader_pair_of, b_Reader_pair_of, k_Reader_pair_of⟩ := ok_Reader_pair_of (base := base) T
  refine ⟨fd, F.ok (k := 1) sc_Reader_take_beside (fun _ _ _ _ h => sp2_len h) (fun cdv A outer s H vs Q E hr h => ?_), F.bindsN (fun _ _ _ _ _ _ us hl => match us, hl with | [_, _], _ => rfl), F.kp⟩
  obtain ⟨v0, v1, rfl, h⟩ := h
  refine ⟨_, PSs.nox (pss_cons (ps_set (i := 2) sc_Reader_take_beside.nd rfl (Or.inl rfl) (pe_ifExp (pt_cmpR op_eq (pe_callB call_len (by rfl) T.b_len (by decide +kernel) (pa_cons (pv 1) pa_nil)) (pe_cI (by rfl) T.c_BESIDE_WORDS) (nomark _)) (pe_meth (pv 0) T.cl_Reader T.m_Reader_pair_of G_Reader_pair_of (hr.mono (by decide)) b_Reader_pair_of .nil pass0 (pa_cons (pe_slice sl_list (pv 1) (po_some pe_int) po_none) pa_nil)) pe_non))
    (pss_cons (ps_if (PW.pt (pw_or (pt_cmpR op_isN (pv 2) pe_non (nomark _)) (pw_or1 (PW.pt (pw_and (pt_cmpR (op_neNil hr.units) (pe_fld (pv 0) rfl) (pe_lst pa_nil) (nomark _)) (pw_and1 (pt_cmpR (op_leT hr.units0) (pv 2) (pe_ix ix_list (pe_fld (pv 0) rfl) (pe_un un_neg pe_int) (fun _ _ => rfl)) (nomark _)))))))) (pss_one (ps_ret pe_bl)) pss_nil)
    (pss_cons (ps_expr (pe_bm PySem.F.plainAttrs_list PySem.F.slot_list_append PySem.F.type_list_append mt_append (pe_fld (pv 0) rfl) (pa_cons (pv 2) pa_nil)))
    (pss_one (ps_ret pe_bl))))), ?_⟩
  obtain ⟨r, dx, a1, a2, a3, st, W, ws, rfl, rfl, R, hW, hl, hz, hst, qn, qs⟩ := h
  refine ⟨_, rfl, _, ws.length, rfl, .inl ⟨_, SqL.of hW, by rw [List.length_map]⟩, rfl, _, rfl, ?_⟩
  by_cases h3 : ws.length = 3
  · obtain ⟨w0, a, b, rfl⟩ : ∃ w0 a b, ws = [w0, a, b] := by
      match ws, h3 with
      | [x, y, z], _ => exact ⟨x, y, z, rfl⟩
    refine ⟨_, rfl, r, dx, _, rfl, R.obj, rfl, _, rfl, 1, rfl, W, _, rfl, SqL.of hW, fun p1 hp1 => ?_⟩
    have s1 : Same H (upd H p1 (.lst [.str a, .str b])) := same_new hp1
    refine ⟨_, _, rfl, r, dx, a1, a2, a3, st, p1, a, b, rfl, rfl, R.same s1, upd_same, hst.1, fun hp H2 s2 => ?_, fun p hp H2 t s2 ht => ?_⟩
    · refine ⟨_, rfl, rfl, _, rfl, ?_⟩
      refine qn ?_ _ (Rk.of (s1.trans s2))
      show (pairOf (names st) a b).bind _ = none
      rw [show pairOf (names st) a b = none from hp]
      rfl
    · have R2 := (R.same s1).same s2
      obtain ⟨vs, hv, hR⟩ := R2.beside
      refine ⟨_, rfl, rfl, _, rfl, ?_⟩
      refine ⟨_, rfl, r, _, dx, _, _, rfl, R2.obj, T.cl_Reader, T.na_Reader_own_beside, rfl, (by show 0 ≤ sizeLine; decide), fun e he => ?_⟩
      have s3 : Same H2 (upd H2 e (.lst [])) := same_new he
      have R3 := R2.same s3
      have hv3 := s3 _ _ hv
      refine ⟨a2, e, vs, rfl, rfl, SqL.of hv3, upd_same, _, rfl, ?_⟩
      have hB : takeBeside st [w0, a, b] = (pairOf (names st) a b).bind fun p => if (st.beside.getLast?.any fun q => pairLe p q) then none else some { st with beside := st.beside ++ [p] } := rfl
      rw [show pairOf (names st) a b = some p from hp] at hB
      have hB : takeBeside st [w0, a, b] = if (st.beside.getLast?.any fun q => pairLe p q) then none else some { st with beside := st.beside ++ [p] } := hB
      have hvl : vs.length = st.beside.length := by rw [hR.length, List.length_map]
      have hadd : ∀ H4, Same (upd H2 e (.lst [])) H4 → (st.beside.getLast?.any fun q => pairLe p q) = false → Q (.bl true) (upd H4 a2 (.lst (vs ++ [.ref t]))) := fun H4 s4 hno => by
        have hv4 := s4 _ _ hv3
        refine qs _ (by rw [hB, hno]; rfl) _ (fun b o _ _ n2 _ hb => ?_) ((R3.same s4).addBeside hv4 (.tup (s4 _ _ (s3 _ _ ht)) (.cons (.int _) (.cons (.int _) .nil))))
        rw [upd_ne n2]
        exact s4 _ _ (s3 _ _ (s2 _ _ (s1 _ _ hb)))
      cases hlast : st.beside.getLast? with
      | none =>
        have hnil : st.beside = [] := List.getLast?_eq_none_iff.mp hlast
        have hvn : vs = [] := List.eq_nil_of_length_eq_zero (by rw [hvl, hnil]; rfl)
        subst hvn
        refine ⟨_, rfl, r, _, dx, _, _, rfl, R3.obj, T.cl_Reader, T.na_Reader_own_beside, rfl, .inl ⟨rfl, _, SqL.of hv3⟩, _, rfl, a2, _, _, rfl, rfl, hv3, (by show 0 < sizeLine; decide), ?_⟩
        exact hadd _ (Same.refl _) (by rw [hlast]; rfl)
      | some q =>
        have hne : vs ≠ [] := fun z => by
          rw [z] at hvl
          rw [List.eq_nil_of_length_eq_zero hvl.symm] at hlast
          cases hlast
        obtain ⟨v, hat, hrv⟩ := hR.last (d := pairD q) (by rw [List.getLast?_map, hlast]; rfl)
        have hemp : vs.isEmpty = false := by
          cases vs with
          | nil => exact absurd rfl hne
          | cons _ _ => rfl
        rw [hemp]
        cases hrv with
        | tup hvt hvl2 =>
          rename_i tq xs
          have e1 : xs = [q.1, q.2].map (fun n : Nat => V.int n) := by
            have := RvL.toInts (ns := [(q.1 : Int), q.2]) hvl2
            rw [this]
            rfl
          refine ⟨_, rfl, _, rfl, r, _, dx, _, _, rfl, R3.obj, T.cl_Reader, T.na_Reader_own_beside, rfl, _, rfl, a2, _, _, _, rfl, rfl, SqL.of hv3, hat, ?_⟩
          refine ⟨t, tq, [p.1, p.2], [q.1, q.2], rfl, rfl, SqT.of (s3 _ _ ht), SqT.of (by rw [s3 _ _ hvt, e1]; rfl), _, rfl, ?_⟩
          rw [lex2]
          cases hle : pairLe p q with
          | true =>
            refine qn ?_ _ (Rk.of (s1.trans (s2.trans s3)))
            rw [hB, hlast]
            exact if_pos hle
          | false =>
            refine ⟨_, rfl, r, _, dx, _, _, rfl, R3.obj, T.cl_Reader, T.na_Reader_own_beside, rfl, .inl ⟨rfl, _, SqL.of hv3⟩, _, rfl, a2, _, _, rfl, rfl, hv3, ?_, ?_⟩
            · rw [hvl]
              exact Nat.lt_of_le_of_lt hst.2.1 (by decide)
            · exact hadd _ (Same.refl _) (by rw [hlast]; exact hle)
  · have e : V.int ((ws.length : Nat) : Int) ≠ V.int 3 := fun z => h3 (by have := V.int.inj z; omega)
    rw [decide_eq_false e]
    refine ⟨_, rfl, rfl, _, rfl, ?_⟩
    refine qn ?_ _ (Rk.of (Same.refl _))
    unfold takeBeside
    split
    · exact absurd rfl h3
    · rfl
end
end SK
set_option maxHeartbeats 4000000
namespace SK
open PySem PySem.Spec PyProof.Rows L2 SL
section
variable {w : World} {K : PySem.W.Frag} {mg : Str → Option Value} {base : Heap}
abbrev n_Reader_take_far : List Str := ["self", "words", "pair"]
theorem sc_Reader_take_far : FnScope n_Reader_take_far ["self", "words"] (defScope d_Reader_take_far) := ⟨rfl, rfl, rfl, by decide +kernel, rfl, by decide +kernel, by decide +kernel⟩
theorem ok_Reader_take_far (T : Top w K mg) : Has prg w K mg base CX0 3 (He.ma K (He.ga K "Reader") "take_far") ["self", "words"] (spTk K takeFar) := by
  obtain ⟨fd, F⟩ := T.F_Reader_take_far
  obtain ⟨fd_Reader_pair_of, G_Reader_pair_of, b_Reader_pair_of, k_Reader_pair_of⟩ := ok_Reader_pair_of (base := base) T
  obtain ⟨fd_whole_in, G_whole_in, b_whole_in, k_whole_in⟩ := ok_whole_in (base := base) T
  obtain ⟨fd_is_between, G_is_between, b_is_between, k_is_between⟩ := ok_is_between (base := base) T
  refine ⟨fd, F.ok (k := 2) sc_Reader_take_far (fun _ _ _ _ h => sp2_len h) (fun cdv A outer s H vs Q E hr h => ?_), F.bindsN (fun _ _ _ _ _ _ us hl => match us, hl with | [_, _], _ => rfl), F.kp⟩
  obtain ⟨v0, v1, rfl, h⟩ := h
  refine ⟨_, PSs.nox (pss_cons (ps_set (i := 2) sc_Reader_take_far.nd rfl (Or.inl rfl) (pe_ifExp (pt_cmpR op_eq (pe_callB call_len (by rfl) T.b_len (by decide +kernel) (pa_cons (pv 1) pa_nil)) (pe_cI (by rfl) T.c_FAR_WORDS) (nomark _)) (pe_meth (pv 0) T.cl_Reader T.m_Reader_pair_of G_Reader_pair_of (hr.mono (by decide)) b_Reader_pair_of .nil pass0 (pa_cons (pe_slice sl_list (pv 1) (po_some pe_int) (po_some (pe_un un_neg pe_int))) pa_nil)) pe_non))
    (pss_cons (ps_if (PW.pt (pw_or (pt_cmpR op_isN (pv 2) pe_non (nomark _)) (pw_or1 (PW.pt (pw_and (pt_cmpR (op_neNil hr.units) (pe_fld (pv 0) rfl) (pe_lst pa_nil) (nomark _)) (pw_and1 (pt_cmpR (op_leT hr.units0) (pv 2) (pe_ix ix_tup (pe_ix ix_list (pe_fld (pv 0) rfl) (pe_un un_neg pe_int) (fun _ _ => rfl)) pe_int (fun _ _ => rfl)) (nomark _)))))))) (pss_one (ps_ret pe_bl)) pss_nil)
    (pss_cons (ps_expr (pe_bm PySem.F.plainAttrs_list PySem.F.slot_list_append PySem.F.type_list_append mt_append (pe_fld (pv 0) rfl) (pa_cons (pe_tup (pa_cons (pv 2) (pa_cons (pe_call G_whole_in (hr.mono (by decide)) (by rfl) T.g_whole_in k_whole_in b_whole_in .nil pass0 (pa_cons (pe_ix ix_list (pv 1) (pe_un un_neg pe_int) (fun _ _ => rfl)) pa_nil)) pa_nil))) pa_nil)))
    (pss_one (ps_ret (pe_call G_is_between (hr.mono (by decide)) (by rfl) T.g_is_between k_is_between b_is_between .nil pass0 (pa_cons (pe_ix ix_tup (pe_ix ix_list (pe_fld (pv 0) rfl) (pe_un un_neg pe_int) (fun _ _ => rfl)) pe_int (fun _ _ => rfl)) (pa_cons pe_int (pa_cons (pe_cI (by rfl) T.c_MOST_FAR) pa_nil))))))))), ?_⟩
  obtain ⟨r, dx, a1, a2, a3, st, W, ws, rfl, rfl, R, hW, hl, hz, hst, qn, qs⟩ := h
  refine ⟨_, rfl, _, ws.length, rfl, .inl ⟨_, SqL.of hW, by rw [List.length_map]⟩, rfl, _, rfl, ?_⟩
  by_cases h3 : ws.length = 4
  · obtain ⟨w0, a, b, d, rfl⟩ : ∃ w0 a b d, ws = [w0, a, b, d] := by
      match ws, h3 with
      | [x, y, z, u], _ => exact ⟨x, y, z, u, rfl⟩
    refine ⟨_, rfl, r, dx, _, rfl, R.obj, rfl, _, rfl, 1, rfl, _, rfl, _, rfl, W, _, rfl, SqL.of hW, fun p1 hp1 => ?_⟩
    have s1 : Same H (upd H p1 (.lst [.str a, .str b])) := same_new hp1
    refine ⟨_, _, rfl, r, dx, a1, a2, a3, st, p1, a, b, rfl, rfl, R.same s1, upd_same, hst.1, fun hp H2 s2 => ?_, fun p hp H2 t s2 ht => ?_⟩
    · refine ⟨_, rfl, rfl, _, rfl, ?_⟩
      refine qn ?_ _ (Rk.of (s1.trans s2))
      show (pairOf (names st) a b).bind _ = none
      rw [show pairOf (names st) a b = none from hp]
      rfl
    · have R2 := (R.same s1).same s2
      obtain ⟨vs, hv, hR⟩ := R2.far
      refine ⟨_, rfl, rfl, _, rfl, ?_⟩
      refine ⟨_, rfl, r, _, dx, _, _, rfl, R2.obj, T.cl_Reader, T.na_Reader_own_far, rfl, (by show 0 ≤ sizeLine; decide), fun e he => ?_⟩
      have s3 : Same H2 (upd H2 e (.lst [])) := same_new he
      have s13 : Same H (upd H2 e (.lst [])) := s1.trans (s2.trans s3)
      have R3 := R2.same s3
      have hv3 := s3 _ _ hv
      refine ⟨a3, e, vs, rfl, rfl, SqL.of hv3, upd_same, _, rfl, ?_⟩
      have hB : takeFar st [w0, a, b, d] = (pairOf (names st) a b).bind fun p => if (st.far.getLast?.any fun q => pairLe p q.1) then none else
        (wholeIn d).bind fun n => if 1 ≤ n ∧ n ≤ 9999 then some { st with far := st.far ++ [(p, n)] } else none := rfl
      rw [show pairOf (names st) a b = some p from hp] at hB
      have hB : takeFar st [w0, a, b, d] = if (st.far.getLast?.any fun q => pairLe p q.1) then none else
        (wholeIn d).bind fun n => if 1 ≤ n ∧ n ≤ 9999 then some { st with far := st.far ++ [(p, n)] } else none := hB
      have hvl : vs.length = st.far.length := by rw [hR.length, List.length_map]
      have key : (st.far.getLast?.any fun q => pairLe p q.1) = false → ∀ H4 tt, Same (upd H2 e (.lst [])) H4 → H4 tt = some (.tup [.ref t, optV (wholeIn d)]) → Q (.bl (betw (optV (wholeIn d)) 1 9999)) (upd H4 a3 (.lst (vs ++ [.ref tt]))) := fun hno H4 tt s4 htt => by
        rw [hno] at hB
        have hB : takeFar st [w0, a, b, d] = (wholeIn d).bind fun n => if 1 ≤ n ∧ n ≤ 9999 then some { st with far := st.far ++ [(p, n)] } else none := hB
        have rk : Rk r a1 a2 a3 H (upd H4 a3 (.lst (vs ++ [.ref tt]))) := fun b o _ _ _ n3 hb => by
          rw [upd_ne n3]
          exact s4 _ _ (s13 _ _ hb)
        cases hd : wholeIn d with
        | none =>
          rw [hd] at hB
          exact qn hB _ rk
        | some n =>
          rw [hd] at hB htt
          have hB : takeFar st [w0, a, b, d] = if 1 ≤ n ∧ n ≤ 9999 then some { st with far := st.far ++ [(p, n)] } else none := hB
          cases hb : betw (.int n) 1 9999 with
          | false =>
            rw [show optV (some n) = .int n from rfl, hb]
            refine qn ?_ _ rk
            rw [hB, if_neg]
            intro z
            rw [betw_int.mpr z] at hb
            cases hb
          | true =>
            rw [show optV (some n) = .int n from rfl, hb]
            refine qs _ (by rw [hB, if_pos (betw_int.mp hb)]) _ rk ((R3.same s4).addFar (s4 _ _ hv3) (.tup htt (.cons (.tup (s4 _ _ (s3 _ _ ht)) (.cons (.int _) (.cons (.int _) .nil))) (.cons (.int _) .nil))))
      have hW3 := s13 _ _ hW
      have hlt : vs.length < sizeLine := by
        rw [hvl]
        exact Nat.lt_of_le_of_lt hst.2.2 (by decide)
      have hcase : (vs.isEmpty = true ∧ st.far.getLast? = none) ∨ ∃ q tq t2 tl, vs.isEmpty = false ∧ st.far.getLast? = some q ∧ atI vs (-1) = some (.ref tq) ∧ H2 tq = some (.tup [.ref t2, tl]) ∧ H2 t2 = some (.tup [.int q.1.1, .int q.1.2]) := by
        cases hlast : st.far.getLast? with
        | none =>
          have hnil : st.far = [] := List.getLast?_eq_none_iff.mp hlast
          have hvn : vs = [] := List.eq_nil_of_length_eq_zero (by rw [hvl, hnil]; rfl)
          exact .inl ⟨by rw [hvn]; rfl, rfl⟩
        | some q =>
          have hemp : vs.isEmpty = false := by
            cases vs with
            | nil =>
              rw [List.eq_nil_of_length_eq_zero hvl.symm] at hlast
              cases hlast
            | cons _ _ => rfl
          obtain ⟨v, hat, hrv⟩ := hR.last (d := farD q) (by rw [List.getLast?_map, hlast]; rfl)
          cases hrv with
          | tup hvt hvl2 =>
            cases hvl2 with
            | cons g1 g2 =>
              cases g2 with
              | cons g3 g4 =>
                cases g4
                cases g1 with
                | tup h5 h6 =>
                  have := RvL.toInts (ns := [(q.1.1 : Int), q.1.2]) h6
                  exact .inr ⟨q, _, _, _, hemp, rfl, hat, hvt, by rw [h5, this]; rfl⟩
      rcases hcase with ⟨hemp, hlast⟩ | ⟨q, tq, t2, tl, hemp, hlast, hat, htq, ht2⟩
      case' inl =>
        rw [hemp]
        have hno : (st.far.getLast?.any fun q => pairLe p q.1) = false := by rw [hlast]; rfl
      case' inr =>
        rw [hemp]
        refine ⟨_, rfl, _, rfl, r, _, dx, _, _, rfl, R3.obj, T.cl_Reader, T.na_Reader_own_far, rfl, _, rfl, a3, _, _, _, rfl, rfl, SqL.of hv3, hat, tq, _, _, _, rfl, rfl, SqT.of (s3 _ _ htq), rfl, ?_⟩
        refine ⟨t, t2, [p.1, p.2], [q.1.1, q.1.2], rfl, rfl, SqT.of (s3 _ _ ht), SqT.of (s3 _ _ ht2), _, rfl, ?_⟩
        rw [lex2 p q.1]
        by_cases hle : pairLe p q.1 = true
        · rw [hle]
          refine qn ?_ _ (Rk.of s13)
          rw [hB, hlast]
          exact if_pos hle
        rw [Bool.eq_false_iff.mpr hle]
        have hno : (st.far.getLast?.any fun q => pairLe p q.1) = false := by rw [hlast]; exact Bool.eq_false_iff.mpr hle
      all_goals
        refine ⟨_, rfl, r, _, dx, _, _, rfl, R3.obj, T.cl_Reader, T.na_Reader_own_far, rfl, .inl ⟨rfl, _, SqL.of hv3⟩, ?_⟩
        refine ⟨_, rfl, _, rfl, _, rfl, W, _, _, V.str d, rfl, rfl, SqL.of hW3, rfl, _, rfl, d, rfl, hz d (by simp), fun H4 s4 => ?_⟩
        refine ⟨(by show 2 ≤ sizeLine; decide), fun tt htt => ?_⟩
        have s5 : Same H4 (upd H4 tt (.tup [.ref t, optV (wholeIn d)])) := same_new htt
        have s45 := s4.trans s5
        have hv5 := s45 _ _ hv3
        have R5 := R3.same s45
        have n3 := R3.n3
        have hne : a3 ≠ tt := fun z => by
          have := s4 _ _ hv3
          rw [z, htt] at this
          cases this
        refine ⟨a3, _, _, rfl, rfl, hv5, hlt, ?_⟩
        have htt5 : upd H4 tt (.tup [.ref t, optV (wholeIn d)]) tt = some (.tup [.ref t, optV (wholeIn d)]) := upd_same
        have kk := key hno _ tt s45 htt5
        generalize upd H4 tt (.tup [.ref t, optV (wholeIn d)]) = H5 at kk htt5 hv5 R5 ⊢
        refine ⟨_, rfl, r, _, dx, _, _, rfl, by rw [upd_ne (Ne.symm n3)]; exact R5.obj, T.cl_Reader, T.na_Reader_own_far, rfl, _, rfl, a3, _, _, _, rfl, rfl, SqL.of upd_same, atI_last _ _, tt, _, _, _, rfl, rfl, SqT.of (by rw [upd_ne (Ne.symm hne)]; exact htt5), rfl, ?_⟩
        exact ⟨_, _, _, rfl, 1, 9999, rfl, rfl, optV_kn _, kk⟩
  · have e : V.int ((ws.length : Nat) : Int) ≠ V.int 4 := fun z => h3 (by have := V.int.inj z; omega)
    rw [decide_eq_false e]
    refine ⟨_, rfl, rfl, _, rfl, ?_⟩
    refine qn ?_ _ (Rk.of (Same.refl _))
    unfold takeFar
    split
    · exact absurd rfl h3
    · rfl
end
end SK
set_option maxHeartbeats 4000000
namespace SL
open PySem PySem.Spec PyProof.Rows L2 TL
theorem pre1 (s c : Nat) (r : List Nat) : pre [s] (c :: r) = (c == s) := by
  unfold pre
  show ([c] == [s]) = _
  simp
theorem spl_bounds (s : Nat) : ∀ (l acc : List Nat), (spl [s] 0 acc l).length ≤ l.length + 1 ∧ spl [s] 0 acc l ≠ [] ∧ ∀ p ∈ spl [s] 0 acc l, p.length ≤ acc.length + l.length
  | [], acc => by
    rw [spl_nil]
    refine ⟨by simp, by simp, fun p hp => ?_⟩
    simp only [List.mem_singleton] at hp
    rw [hp]
    simp
  | c :: r, acc => by
    by_cases h : c = s
    · have hp : pre [s] (c :: r) = true := by rw [pre1]; exact beq_iff_eq.mpr h
      rw [spl_hit hp]
      obtain ⟨i1, i2, i3⟩ := spl_bounds s r []
      have e : spl [s] ([s].length - 1) [] r = spl [s] 0 [] r := rfl
      rw [e]
      refine ⟨by rw [List.length_cons, List.length_cons]; omega, by simp, fun p hp => ?_⟩
      rcases List.mem_cons.mp hp with rfl | hp
      · omega
      · have := i3 p hp
        rw [List.length_cons]
        simp only [List.length_nil] at this
        omega
    · have hp : pre [s] (c :: r) = false := by rw [pre1]; exact beq_eq_false_iff_ne.mpr h
      rw [spl_miss hp]
      obtain ⟨i1, i2, i3⟩ := spl_bounds s r (acc ++ [c])
      refine ⟨by rw [List.length_cons]; omega, i2, fun p hp => ?_⟩
      have := i3 p hp
      rw [List.length_append, List.length_singleton] at this
      rw [List.length_cons]
      omega
theorem split_bounds {y : Str} {s : Nat} (ey : tl y = [s]) (hk : y.cps.all (· < 256) = true) (x : Str) : (Txt.split x y).length ≤ x.length + 1 ∧ Txt.split x y ≠ [] ∧ ∀ p ∈ Txt.split x y, p.length ≤ x.length := by
  have h := split_spl x y (by rw [ey]; simp) (kind_ok hk)
  rw [ey] at h
  obtain ⟨i1, i2, i3⟩ := spl_bounds s (tl x) []
  have hl := congrArg List.length h
  rw [List.length_map] at hl
  refine ⟨by rw [hl, len_tl]; exact i1, fun e => ?_, fun p hp => ?_⟩
  · rw [e] at h
    exact i2 h.symm
  · have := i3 (tl p) (by rw [← h]; exact List.mem_map.mpr ⟨p, hp, rfl⟩)
    rw [len_tl, len_tl x]
    simpa using this
def behind (s : Str) : List Str := if s = "" then ["zooms"] else if s = "zooms" then ["class"] else if s = "class" then ["class", "beside", "far"] else if s = "beside" then ["beside", "far"] else ["far"]
def sortOk (s : Str) : Prop := s = "" ∨ s = "zooms" ∨ s = "class" ∨ s = "beside" ∨ s = "far"
def takeWords (st : RSt) (ws : List Str) : Option RSt := match ws with
  | [] => none
  | w0 :: r => if w0 ∈ behind st.sort then (if w0 = "zooms" then takeZooms { st with sort := w0 } (w0 :: r) else if w0 = "class" then takeClass { st with sort := w0 } (w0 :: r) else
      if w0 = "beside" then takeBeside { st with sort := w0 } (w0 :: r) else takeFar { st with sort := w0 } (w0 :: r)) else none
def takeLine (st : RSt) (z : Str) : Option RSt := takeWords st (Txt.split z " ")
theorem behind_ok {s z : Str} (h : z ∈ behind s) : sortOk z := by
  unfold behind at h
  unfold sortOk
  split at h
  · simp at h; simp [h]
  · split at h
    · simp at h; simp [h]
    · split at h
      · simp at h; rcases h with h | h | h <;> simp [h]
      · split at h
        · simp at h; rcases h with h | h <;> simp [h]
        · simp at h; simp [h]
end SL
namespace SK
open PySem PySem.Spec PyProof.Rows L2 SL
section
variable {w : World} {K : PySem.W.Frag} {mg : Str → Option Value} {base : Heap}
theorem behindAt (T : Top w K mg) {s : Str} (h : sortOk s) : ∃ v, KDct K w (He.ga K "BEHIND") s (.ref v) ∧ ∀ H, SqT K H v ((behind s).map V.str) := by
  obtain ⟨es, n, D⟩ := T.t_BEHIND
  rcases h with rfl | rfl | rfl | rfl | rfl
  · obtain ⟨u, v, h1, h2, h3⟩ := T.t_BEHIND_0
    exact ⟨v, ⟨es, n, u, D.at_, D.lit, h1, h2⟩, h3⟩
  · obtain ⟨u, v, h1, h2, h3⟩ := T.t_BEHIND_1
    exact ⟨v, ⟨es, n, u, D.at_, D.lit, h1, h2⟩, h3⟩
  · obtain ⟨u, v, h1, h2, h3⟩ := T.t_BEHIND_2
    exact ⟨v, ⟨es, n, u, D.at_, D.lit, h1, h2⟩, h3⟩
  · obtain ⟨u, v, h1, h2, h3⟩ := T.t_BEHIND_3
    exact ⟨v, ⟨es, n, u, D.at_, D.lit, h1, h2⟩, h3⟩
  · obtain ⟨u, v, h1, h2, h3⟩ := T.t_BEHIND_4
    exact ⟨v, ⟨es, n, u, D.at_, D.lit, h1, h2⟩, h3⟩
def spRead (K : PySem.W.Frag) : Sp := sp2 fun self lv H Q _ => ∃ r dx a1 a2 a3 st z, self = .ref r ∧ lv = .str z ∧ RAt (cRd K) (cRow K) H r dx a1 a2 a3 st ∧ z.length ≤ 600 ∧ stOk 1000 st ∧ sortOk st.sort ∧
  (takeLine st z = none → ∀ H', Rk r a1 a2 a3 H H' → Q (.bl false) H') ∧ (∀ st', takeLine st z = some st' → ∀ H', Rk r a1 a2 a3 H H' → RAt (cRd K) (cRow K) H' r dx a1 a2 a3 st' → Q (.bl true) H')
abbrev n_Reader_take : List Str := ["self", "line", "words"]
theorem sc_Reader_take : FnScope n_Reader_take ["self", "line"] (defScope d_Reader_take) := ⟨rfl, rfl, rfl, by decide +kernel, rfl, by decide +kernel, by decide +kernel⟩
theorem ok_Reader_take (T : Top w K mg) : Has prg w K mg base CX0 6 (He.ma K (He.ga K "Reader") "take") ["self", "line"] (spRead K) := by
  obtain ⟨fd, F⟩ := T.F_Reader_take
  obtain ⟨fd_Reader_take_beside, G_Reader_take_beside, b_Reader_take_beside, k_Reader_take_beside⟩ := ok_Reader_take_beside (base := base) T
  obtain ⟨fd_Reader_take_class, G_Reader_take_class, b_Reader_take_class, k_Reader_take_class⟩ := ok_Reader_take_class (base := base) T
  obtain ⟨fd_Reader_take_zooms, G_Reader_take_zooms, b_Reader_take_zooms, k_Reader_take_zooms⟩ := ok_Reader_take_zooms (base := base) T
  obtain ⟨fd_Reader_take_far, G_Reader_take_far, b_Reader_take_far, k_Reader_take_far⟩ := ok_Reader_take_far (base := base) T
  refine ⟨fd, F.ok (k := 5) sc_Reader_take (fun _ _ _ _ h => sp2_len h) (fun cdv A outer s H vs Q E hr h => ?_), F.bindsN (fun _ _ _ _ _ _ us hl => match us, hl with | [_, _], _ => rfl), F.kp⟩
  obtain ⟨v0, v1, rfl, h⟩ := h
  refine ⟨_, PSs.nox (pss_cons (ps_set (i := 2) sc_Reader_take.nd rfl (Or.inl rfl) (pe_split (pv 1) pe_str))
    (pss_cons (ps_if (pt_cmpR op_notIn_seq (pe_ix ix_list (pv 2) pe_int (fun _ _ => rfl)) (pe_ix ix_kdict (pe_glob (v := .ref (He.ga K "BEHIND")) (by rfl) T.g_BEHIND rfl) (pe_fld (pv 0) rfl) (fun _ _ => rfl)) (by rfl)) (pss_one (ps_ret pe_bl)) pss_nil)
    (pss_cons (ps_fld (pv 0) (pe_ix ix_list (pv 2) pe_int (fun _ _ => rfl)) rfl)
    (pss_cons (ps_match (pe_ix ix_list (pv 2) pe_int (fun _ _ => rfl)) (pm_str (pss_one (ps_ret (pe_meth (pv 0) T.cl_Reader T.m_Reader_take_zooms G_Reader_take_zooms (hr.mono (by decide)) b_Reader_take_zooms .nil pass0 (pa_cons (pv 2) pa_nil)))) (pm_str (pss_one (ps_ret (pe_meth (pv 0) T.cl_Reader T.m_Reader_take_class G_Reader_take_class (hr.mono (by decide)) b_Reader_take_class .nil pass0 (pa_cons (pv 2) pa_nil)))) (pm_str (pss_one (ps_ret (pe_meth (pv 0) T.cl_Reader T.m_Reader_take_beside G_Reader_take_beside (hr.mono (by decide)) b_Reader_take_beside .nil pass0 (pa_cons (pv 2) pa_nil)))) pm_nil))))
    (pss_one (ps_ret (pe_meth (pv 0) T.cl_Reader T.m_Reader_take_far G_Reader_take_far (hr.mono (by decide)) b_Reader_take_far .nil pass0 (pa_cons (pv 2) pa_nil)))))))), ?_⟩
  obtain ⟨r, dx, a1, a2, a3, st, z, rfl, rfl, R, hz, hst, hso, qn, qs⟩ := h
  obtain ⟨b1, b2, b3⟩ := split_bounds (y := " ") (s := 32) (by decide +kernel) (by decide +kernel) z
  refine ⟨_, rfl, ⟨_, rfl⟩, _, _, rfl, rfl, by decide, Nat.le_trans (show z.length + 2 ≤ 1000 by omega) (by decide), fun W hW => ?_⟩
  have hl : (Txt.split z " ").length ≤ 1000 := by omega
  have hzw : ∀ p ∈ Txt.split z " ", p.length ≤ 640 := fun p hp => Nat.le_trans (b3 p hp) (by omega)
  have hq : takeLine st z = takeWords st (Txt.split z " ") := rfl
  rw [hq] at qn qs
  generalize Txt.split z " " = ws at hW b1 b2 b3 hl hzw qn qs ⊢
  obtain ⟨w0, rs, rfl⟩ := List.exists_cons_of_ne_nil b2
  have s1 : Same H (upd H W (.lst ((w0 :: rs).map V.str))) := same_new hW
  have hW1 : upd H W (.lst ((w0 :: rs).map V.str)) W = some (.lst ((w0 :: rs).map V.str)) := upd_same
  have R1 := R.same s1
  generalize upd H W (.lst ((w0 :: rs).map V.str)) = H1 at s1 hW1 R1 ⊢
  obtain ⟨bv, bd, bt⟩ := behindAt T hso
  refine ⟨_, rfl, W, _, _, V.str w0, rfl, rfl, SqL.of hW1, atI_nat (j := 0) rfl, _, rfl, r, _, dx, _, _, rfl, R1.obj, T.cl_Reader, T.na_Reader_own_sort, rfl, _, _, _, rfl, rfl, bd, ?_⟩
  refine ⟨bv, _, rfl, .inr (bt _), rfl, flat_strs _, _, rfl, ?_⟩
  show if (!inV (.str w0) ((behind st.sort).map V.str)) = true then _ else _
  rw [inV_str]
  by_cases hb : w0 ∈ behind st.sort
  · rw [decide_eq_true hb]
    have nrW : r ≠ W := fun e => by
      have := R1.obj
      rw [e, hW1] at this
      cases this
    refine ⟨_, rfl, W, _, _, V.str w0, rfl, rfl, SqL.of hW1, atI_nat (j := 0) rfl, _, rfl, r, _, dx, _, rfl, R1.obj, T.cl_Reader, T.na_Reader_own_sort, by show 5 < 1000; decide, ?_⟩
    have R2 := R1.setObj (sort := w0) (last := st.last)
    have hW2 : (upd H1 r (.ins (cRd K) dx [("own_sort", .str w0), ("own_last", .int st.last), ("own_rows", .ref a1), ("own_beside", .ref a2), ("own_far", .ref a3)])) W = some (.lst ((w0 :: rs).map V.str)) := by
      rw [upd_ne (Ne.symm nrW)]
      exact hW1
    have rk2 : Rk r a1 a2 a3 H (upd H1 r (.ins (cRd K) dx [("own_sort", .str w0), ("own_last", .int st.last), ("own_rows", .ref a1), ("own_beside", .ref a2), ("own_far", .ref a3)])) := fun b o n _ _ _ hb => by
      rw [upd_ne n]
      exact s1 _ _ hb
    generalize hH2 : upd H1 r (.ins (cRd K) dx [("own_sort", .str w0), ("own_last", .int st.last), ("own_rows", .ref a1), ("own_beside", .ref a2), ("own_far", .ref a3)]) = H2 at R2 hW2 rk2
    have hT : takeWords st (w0 :: rs) = if w0 = "zooms" then takeZooms { st with sort := w0 } (w0 :: rs) else if w0 = "class" then takeClass { st with sort := w0 } (w0 :: rs) else if w0 = "beside" then takeBeside { st with sort := w0 } (w0 :: rs) else takeFar { st with sort := w0 } (w0 :: rs) := if_pos hb
    rw [hT] at qn qs
    have sub : ∀ f, (f { st with sort := w0 } (w0 :: rs) = none → ∀ H', Rk r a1 a2 a3 H H' → Q (.bl false) H') → (∀ st', f { st with sort := w0 } (w0 :: rs) = some st' → ∀ H', Rk r a1 a2 a3 H H' → RAt (cRd K) (cRow K) H' r dx a1 a2 a3 st' → Q (.bl true) H') →
        spTk K f [.ref r, .ref W] H2 Q E0 := fun f fn fs =>
      ⟨_, _, rfl, r, dx, a1, a2, a3, _, W, _, rfl, rfl, R2, hW2, hl, hzw, hst, fun e H' rk => fn e H' (rk2.trans rk), fun st' e H' rk ra => fs st' e H' (rk2.trans rk) ra⟩
    subst hH2
    refine ⟨_, rfl, W, _, _, V.str w0, rfl, rfl, SqL.of hW2, atI_nat (j := 0) rfl, w0, rfl, ?_⟩
    by_cases c1 : w0 = "zooms"
    · rw [if_pos c1] at qn qs ⊢
      exact ⟨_, rfl, r, dx, _, rfl, R2.obj, rfl, _, rfl, sub _ qn qs⟩
    · rw [if_neg c1] at qn qs ⊢
      refine ⟨w0, rfl, ?_⟩
      by_cases c2 : w0 = "class"
      · rw [if_pos c2] at qn qs ⊢
        exact ⟨_, rfl, r, dx, _, rfl, R2.obj, rfl, _, rfl, sub _ qn qs⟩
      · rw [if_neg c2] at qn qs ⊢
        refine ⟨w0, rfl, ?_⟩
        by_cases c3 : w0 = "beside"
        · rw [if_pos c3] at qn qs ⊢
          exact ⟨_, rfl, r, dx, _, rfl, R2.obj, rfl, _, rfl, sub _ qn qs⟩
        · rw [if_neg c3] at qn qs ⊢
          exact ⟨_, rfl, r, dx, _, rfl, R2.obj, rfl, _, rfl, sub _ qn qs⟩
  · rw [decide_eq_false hb]
    refine qn ?_ _ (Rk.of s1)
    exact if_neg hb
end
end SK
set_option maxHeartbeats 4000000
namespace SL
open PySem PySem.Spec PyProof.Rows L2 TL
def readL : RSt → Nat → List Str → Except Nat RSt
  | st, _, [] => .ok st
  | st, n, z :: zs => match takeLine st z with
    | none => .error (n + 1)
    | some st' => readL st' (n + 1) zs
theorem readL_some {st st' : RSt} {n : Nat} {z : Str} {zs : List Str} (h : takeLine st z = some st') : readL st n (z :: zs) = readL st' (n + 1) zs := by
  show (match takeLine st z with | none => Except.error (n + 1) | some st' => readL st' (n + 1) zs) = _
  rw [h]
def stZero : RSt := ⟨"", 0, [], [], []⟩
def readStyle (x : Str) : Except Nat RSt := match readL stZero 0 (Txt.split x "\n") with
  | .error n => .error n
  | .ok st => if st.rows = [] then .error ((Txt.split x "\n").length + 1) else .ok st
theorem takeWords_len {st st' : RSt} {ws : List Str} {n : Nat} (h : takeWords st ws = some st') (hn : stOk n st) : stOk (n + 1) st' ∧ sortOk st'.sort := by
  unfold takeWords at h
  split at h
  · cases h
  · rename_i w0 r
    split at h
    · rename_i hb
      have so := behind_ok hb
      obtain ⟨h1, h2, h3⟩ := hn
      split at h
      · unfold takeZooms at h
        split at h
        · obtain ⟨k, _, h⟩ := Option.bind_eq_some_iff.mp h
          split at h
          · have := Option.some.inj h
            subst this
            exact ⟨⟨Nat.le_succ_of_le h1, Nat.le_succ_of_le h2, Nat.le_succ_of_le h3⟩, so⟩
          · cases h
        · cases h
      · split at h
        · unfold takeClass at h
          obtain ⟨k, _, h⟩ := Option.bind_eq_some_iff.mp h
          split at h
          · cases h
          · have := Option.some.inj h
            subst this
            refine ⟨⟨?_, Nat.le_succ_of_le h2, Nat.le_succ_of_le h3⟩, so⟩
            simp only [List.length_append, List.length_singleton]
            omega
        · split at h
          · unfold takeBeside at h
            split at h
            · obtain ⟨k, _, h⟩ := Option.bind_eq_some_iff.mp h
              split at h
              · cases h
              · have := Option.some.inj h
                subst this
                refine ⟨⟨Nat.le_succ_of_le h1, ?_, Nat.le_succ_of_le h3⟩, so⟩
                simp only [List.length_append, List.length_singleton]
                omega
            · cases h
          · unfold takeFar at h
            split at h
            · obtain ⟨k, _, h⟩ := Option.bind_eq_some_iff.mp h
              split at h
              · cases h
              · obtain ⟨k2, _, h⟩ := Option.bind_eq_some_iff.mp h
                split at h
                · have := Option.some.inj h
                  subst this
                  refine ⟨⟨Nat.le_succ_of_le h1, Nat.le_succ_of_le h2, ?_⟩, so⟩
                  simp only [List.length_append, List.length_singleton]
                  omega
                · cases h
            · cases h
    · cases h
theorem stOk.mono {n m : Nat} {st : RSt} (h : stOk n st) (e : n ≤ m) : stOk m st := ⟨Nat.le_trans h.1 e, Nat.le_trans h.2.1 e, Nat.le_trans h.2.2 e⟩
end SL
namespace SK
open PySem PySem.Spec PyProof.Rows L2 SL
section
variable {w : World} {K : PySem.W.Frag} {mg : Str → Option Value} {base : Heap}
def spReadStyle (K : PySem.W.Frag) : Sp := sp1 fun v H Q E => (∃ n, Kn H v n) ∧ (isStrV v = false → Rz H E (He.ga K "BadStyle") (.int 0)) ∧
  ∀ x, v = .str x → x.length ≤ 500000 ∧ (Txt.split x "\n").length ≤ 900 ∧ (∀ z ∈ Txt.split x "\n", z.length ≤ 600) ∧ (∀ n, readStyle x = .error n → Rz H E (He.ga K "BadStyle") (.int (n : Nat))) ∧
    (∀ st, readStyle x = .ok st → ∀ H' r dx a1 a2 a3, Same H H' → RAt (cRd K) (cRow K) H' r dx a1 a2 a3 st → Q (.ref r) H')
abbrev n_read_style : List Str := ["text", "reader", "lines", "at", "line"]
theorem sc_read_style : FnScope n_read_style ["text"] (defScope d_read_style) := ⟨rfl, rfl, rfl, by decide +kernel, rfl, by decide +kernel, by decide +kernel⟩
theorem ok_read_style (T : Top w K mg) : Has prg w K mg base (L2.CX prg w) 7 (He.ga K "read_style") ["text"] (spReadStyle K) := by
  obtain ⟨fd, F⟩ := T.F_read_style
  obtain ⟨fd_Reader_init, G_Reader_init, b_Reader_init, k_Reader_init⟩ := ok_Reader_init (base := base) T
  obtain ⟨fd_Reader_take, G_Reader_take, b_Reader_take, k_Reader_take⟩ := ok_Reader_take (base := base) T
  refine ⟨fd, F.ok (k := 6) sc_read_style (fun _ _ _ _ h => sp1_len h) (fun cdv A outer s H vs Q E hr h => ?_), F.bindsN (fun _ _ _ _ _ _ us hl => match us, hl with | [_], _ => rfl), F.kp⟩
  obtain ⟨v0, rfl, h⟩ := h
  refine ⟨_, (pss_cons (ps_if (pt_not (pt_val (pe_callB call_isi (by rfl) T.b_isinstance (by decide +kernel) (pa_cons (pv 0) (pa_cons (pe_bltn (v := .ty "str") (by rfl) T.b_str (by decide +kernel) rfl) pa_nil))))) (pss_one (ps_raiseE T.ini T.b_super T.er_BadStyle (hr.mono (by decide)) (by rfl) T.g_BadStyle (by rfl) (takes_of rfl rfl rfl rfl) pe_int)) pss_nil)
    (pss_cons (ps_par (i := 1) (j := 2) (by rfl) sc_read_style.nd rfl rfl (by decide) rfl rfl (pa_cons (pe_make0 T.mk_Reader G_Reader_init (hr.mono (by decide)) (by rfl) T.g_Reader b_Reader_init .nil pass0) (pa_cons (pe_split (pv 0) pe_str) pa_nil)) (by rfl))
    (pss_cons (ps_for (passes_of rfl) rfl (pi_enum (by rfl) T.b_enumerate (pa_cons (pv 2) pa_nil)) (pg_tup rfl (pgs_cons (pg_name (i := 3) sc_read_style.nd rfl (Or.inl rfl)) (pgs_cons (pg_name (i := 4) sc_read_style.nd rfl (Or.inl rfl)) pgs_nil))) (pss_one (ps_if (pt_not (pt_val (pe_meth (pv 1) T.cl_Reader T.m_Reader_take G_Reader_take (hr.mono (by decide)) b_Reader_take .nil pass0 (pa_cons (pv 4) pa_nil)))) (pss_one (ps_raiseE T.ini T.b_super T.er_BadStyle (hr.mono (by decide)) (by rfl) T.g_BadStyle (by rfl) (takes_of rfl rfl rfl rfl) (pe_op op_add (pv 3) pe_int))) pss_nil)))
    (pss_cons (ps_if (pt_cmpR (op_eqNil hr.units) (pe_fld (pv 1) rfl) (pe_lst pa_nil) (nomark _)) (pss_one (ps_raiseE T.ini T.b_super T.er_BadStyle (hr.mono (by decide)) (by rfl) T.g_BadStyle (by rfl) (takes_of rfl rfl rfl rfl) (pe_op op_add (pe_callB call_len (by rfl) T.b_len (by decide +kernel) (pa_cons (pv 2) pa_nil)) pe_int))) pss_nil)
    (pss_one (ps_ret (pv 1))))))), ?_⟩
  obtain ⟨⟨n, kn⟩, hbad, hx⟩ := h
  refine ⟨_, rfl, _, _, _, _, _, rfl, .ty _, kn.tyx, kn.kStr, _, rfl, ?_⟩
  cases hv : isStrV v0 with
  | false => exact Rz.fin T.er_BadStyle (hbad hv)
  | true =>
    obtain ⟨x, rfl⟩ : ∃ x, v0 = .str x := by
      cases v0 <;> first | exact ⟨_, rfl⟩ | cases hv
    obtain ⟨hx1, hx2, hx3, herr, hok⟩ := hx x rfl
    refine fun r dx hr' hdx hne => ⟨_, rfl, r, dx, rfl, upd_same, fun H1 a1 a2 a3 k1 f1 f2 f3 R1 => ⟨rfl, ?_⟩⟩
    have s1 : Same H H1 := fun b o hb => by
      have n1 : b ≠ r := ne_of_none hb hr'
      have n2 : b ≠ dx := ne_of_none hb hdx
      exact k1 b o n1 (by rw [upd_ne n1, upd_ne n2]; exact hb)
    refine ⟨_, rfl, ⟨_, rfl⟩, _, _, rfl, rfl, by decide, Nat.le_trans (show x.length + 2 ≤ 600000 by omega) (by decide), fun L hL => ?_⟩
    have hRS : readStyle x = match readL stZero 0 (Txt.split x "\n") with | .error n => .error n | .ok st => if st.rows = [] then .error ((Txt.split x "\n").length + 1) else .ok st := rfl
    generalize Txt.split x "\n" = ls at hx2 hx3 hRS hL ⊢
    have s2 : Same H1 (upd H1 L (.lst (ls.map V.str))) := same_new hL
    have hL2 : upd H1 L (.lst (ls.map V.str)) L = some (.lst (ls.map V.str)) := upd_same
    have R2 := R1.same s2
    generalize upd H1 L (.lst (ls.map V.str)) = H2 at s2 hL2 R2 ⊢
    have nr : L ≠ r := fun e => by rw [e, R1.obj] at hL; cases hL
    have n1 : L ≠ a1 := fun e => by obtain ⟨vs, h, _⟩ := R1.rows; rw [e, h] at hL; cases hL
    have n2 : L ≠ a2 := fun e => by obtain ⟨vs, h, _⟩ := R1.beside; rw [e, h] at hL; cases hL
    have n3 : L ≠ a3 := fun e => by obtain ⟨vs, h, _⟩ := R1.far; rw [e, h] at hL; cases hL
    have up : ∀ {b : Addr}, upd (upd H dx (.own r)) r (.ins (cRd K) dx []) b = none → H b = none := fun {b} h => by
      have m1 : b ≠ r := fun e => by rw [e, upd_same] at h; cases h
      rw [upd_ne m1] at h
      have m2 : b ≠ dx := fun e => by rw [e, upd_same] at h; cases h
      rw [upd_ne m2] at h
      exact h
    have rkS : ∀ {Ha Hb : Hp}, Same H Ha → Rk r a1 a2 a3 Ha Hb → Same H Hb := fun {Ha Hb} sa rk b o hb =>
      rk b o (ne_of_none hb hr') (ne_of_none hb (up f1)) (ne_of_none hb (up f2)) (ne_of_none hb (up f3)) (sa b o hb)
    refine ⟨_, _, rfl, ?_⟩
    refine ⟨_, rfl, L, _, rfl, SqL.of hL2, for_it (walk_enum (K := K) (a := L) (xs := ls.map V.str)) (fun i σ H' => ∃ (st : RSt) (v3 v4 : Option V), σ = [some (.str x), some (.ref r), some (.ref L), v3, v4] ∧ Same H H' ∧ H' L = some (.lst (ls.map V.str)) ∧
      RAt (cRd K) (cRow K) H' r dx a1 a2 a3 st ∧ stOk i st ∧ sortOk st.sort ∧ readL stZero 0 ls = readL st i (ls.drop i)) ⟨stZero, none, none, rfl, s1.trans s2, hL2, R2, ⟨Nat.le_refl _, Nat.le_refl _, Nat.le_refl _⟩, .inl rfl, rfl⟩ ?_ ?_ ?_⟩
    · rintro i σ H' _ ⟨st, v3, v4, _, _, hL', _⟩
      exact SqL.of hL'
    · rintro i y σ H3 H4 hi ⟨st, v3, v4, rfl, s3, hL3, R3, ok3, so3, rd3⟩ ⟨Tt, x1, y1, rfl, hT, rfl, e1, e2⟩
      cases e1
      have e2 : (ls.map V.str)[i]? = some y1 := e2
      rw [List.getElem?_map] at e2
      obtain ⟨z, hz, rfl⟩ := Option.map_eq_some_iff.mp e2
      rw [List.length_map] at hi
      have s4 : Same H3 (upd H3 Tt (.tup [V.int i, V.str z])) := same_new hT
      have R4 := R3.same s4
      have hL4 := s4 _ _ hL3
      have hdrop : ls.drop i = z :: ls.drop (i + 1) := by
        rw [List.drop_eq_getElem_cons hi]
        rw [List.getElem?_eq_getElem hi] at hz
        rw [Option.some.inj hz]
      rw [hdrop] at rd3
      refine ⟨Tt, _, rfl, SqT.of upd_same, rfl, _, _, rfl, _, _, rfl, rfl, ?_⟩
      refine ⟨_, rfl, r, dx, _, rfl, R4.obj, rfl, _, rfl, ?_⟩
      refine ⟨_, _, rfl, r, dx, a1, a2, a3, st, z, rfl, rfl, R4, hx3 z (List.mem_of_getElem? hz), ok3.mono (by omega), so3, fun ht H5 rk => ?_, fun st' ht H5 rk R5 => ?_⟩
      · refine ⟨_, rfl, ?_⟩
        refine ⟨_, rfl, _, _, rfl, rfl, Rz.fin T.er_BadStyle ?_⟩
        have er : readStyle x = .error (i + 1) := by
          have e : readL st i (z :: ls.drop (i + 1)) = .error (i + 1) := by
            unfold readL
            rw [ht]
          rw [hRS, rd3, e]
        exact (herr _ er).from (rkS (s3.trans s4) rk)
      · refine ⟨_, rfl, ?_⟩
        obtain ⟨ok5, so5⟩ := takeWords_len (show takeWords st (Txt.split z " ") = some st' from ht) ok3
        refine ⟨st', _, _, rfl, rkS (s3.trans s4) rk, rk L _ nr n1 n2 n3 hL4, R5, ok5, so5, ?_⟩
        rw [rd3, readL_some ht]
    · rintro σ H3 ⟨st, v3, v4, rfl, s3, hL3, R3, ok3, so3, rd3⟩
      rw [List.length_map, List.drop_length] at rd3
      have rd3 : readL stZero 0 ls = .ok st := rd3
      obtain ⟨vs, hv, hR⟩ := R3.rows
      refine ⟨_, rfl, r, _, dx, _, _, rfl, R3.obj, T.cl_Reader, T.na_Reader_own_rows, rfl, (by show 0 ≤ sizeLine; decide), fun e he => ?_⟩
      have s4 : Same H3 (upd H3 e (.lst [])) := same_new he
      refine ⟨a1, e, vs, rfl, rfl, SqL.of (s4 _ _ hv), upd_same, _, rfl, ?_⟩
      have hlen := hR.len
      cases vs with
      | nil =>
        have hrn : st.rows = [] := List.eq_nil_of_length_eq_zero hlen.symm
        refine ⟨_, rfl, _, ls.length, rfl, .inl ⟨_, SqL.of (s4 _ _ hL3), by rw [List.length_map]⟩, _, _, rfl, rfl, Rz.fin T.er_BadStyle ?_⟩
        have er : readStyle x = .error (ls.length + 1) := by
          rw [hRS, rd3]
          exact if_pos hrn
        exact (herr _ er).from (s3.trans s4)
      | cons v vs =>
        have hrn : st.rows ≠ [] := fun z => by rw [z] at hlen; cases hlen
        refine ⟨_, rfl, hok st ?_ _ r dx a1 a2 a3 (s3.trans s4) (R3.same s4)⟩
        rw [hRS, rd3]
        exact if_neg hrn
end
end SK
set_option maxHeartbeats 4000000
namespace SL
open PySem PySem.Spec PyProof.Rows L2 TL
theorem dc_it {J : It} {n : Nat} {G : Hp → Prop} {Y : Nat → Hp → V → Hp → Prop} (w : Walk J n G Y) {g : TG} {tt : TT} {tk tv : TE} {vs : List Nat} {σ : L2.St} {H1 : Hp} {D : Addr} {Qd : Hp → Prop} (Pv : Nat → Hp → Prop) (h0 : Pv 0 (upd H1 D (.dK []))) (hG : ∀ i H, i ≤ n → Pv i H → G H)
    (hs : ∀ i x H H', i < n → Pv i H → Y i H x H' → g x (wipe σ vs) H' fun σ2 H2 => wipe σ2 vs = wipe σ vs ∧ tt σ2 H2 fun b H3 =>
      if b = true then tk σ2 H3 fun y H4 => tv σ2 H4 fun z H5 => ∃ kvs k, y = kV k ∧ H5 D = some (.dK kvs) ∧ kvs.length < sizeLine ∧ Pv (i + 1) (upd H5 D (.dK (putK kvs k z))) else Pv (i + 1) H3) (hd : ∀ H, Pv n H → Qd H) :
    ∃ W : Nat → Nat → Hp → Prop, (∃ m, W 0 m (upd H1 D (.dK []))) ∧ ∀ i m H, W i m H →
      (J.stop i H ∧ Qd H) ∨ (J.go i H ∧ ∃ Nx : Hp → Prop, (∀ H', Nx H' → ∃ m', m' < m ∧ W (i + 1) m' H') ∧ ∀ x H', J.yld i H x H' → g x (wipe σ vs) H' fun σ2 H2 => wipe σ2 vs = wipe σ vs ∧ tt σ2 H2 fun b H3 =>
        if b = true then tk σ2 H3 fun y H4 => tv σ2 H4 fun z H5 => ∃ kvs k, y = kV k ∧ H5 D = some (.dK kvs) ∧ kvs.length < sizeLine ∧ Nx (upd H5 D (.dK (putK kvs k z))) else Nx H3) := by
  refine ⟨fun i m H => m = n - i ∧ i ≤ n ∧ Pv i H, ⟨n, by simp, Nat.zero_le _, h0⟩, ?_⟩
  rintro i m H ⟨rfl, hi, p⟩
  have q := hG i H hi p
  by_cases hlt : i < n
  · refine .inr ⟨w.goes i H hlt q, Pv (i + 1), fun H' p' => ⟨n - (i + 1), by omega, rfl, hlt, p'⟩, fun x H' y => hs i x H H' hlt p (w.yields i H x H' hlt q y)⟩
  · have e : i = n := by omega
    subst e
    exact .inl ⟨w.stops H q, hd H p⟩
def Asc (l : List (Nat × Nat)) : Prop := l.Pairwise fun p q => pairLe q p = false
theorem pairLe_tr {p q r : Nat × Nat} (h1 : pairLe q p = false) (h2 : pairLe r q = false) : pairLe r p = false := by
  unfold pairLe at *
  split at h1 <;> split at h2 <;> split <;> simp only [decide_eq_false_iff_not] at * <;> omega
theorem Asc.snoc {l : List (Nat × Nat)} {p : Nat × Nat} (h : Asc l) (hp : (l.getLast?.any fun q => pairLe p q) = false) : Asc (l ++ [p]) := by
  unfold Asc at *
  rw [List.pairwise_append]
  refine ⟨h, List.pairwise_singleton _ _, fun a ha b hb => ?_⟩
  rw [List.mem_singleton.mp hb]
  cases e : l.getLast? with
  | none =>
    rw [List.getLast?_eq_none_iff.mp e] at ha
    cases ha
  | some q =>
    rw [e] at hp
    have hp : pairLe p q = false := hp
    obtain ⟨ys, rfl⟩ := List.getLast?_eq_some_iff.mp e
    rcases List.mem_append.mp ha with ha | ha
    · exact pairLe_tr ((List.pairwise_append.mp h).2.2 a ha q (by simp)) hp
    · rw [List.mem_singleton.mp ha]
      exact hp
theorem Asc.nodup {l : List (Nat × Nat)} (h : Asc l) : l.Nodup := h.imp fun {a b} hab e => by
  subst e
  unfold pairLe at hab
  simp at hab
structure StWF (st : RSt) : Prop where
  nd : (names st).Nodup
  be : Asc st.beside
  fa : Asc (st.far.map (·.1))
theorem StWF.zero : StWF stZero := ⟨by simp [names, stZero], by simp [Asc, stZero], by simp [Asc, stZero]⟩
theorem takeWords_wf {st st' : RSt} {ws : List Str} (h : takeWords st ws = some st') (hw : StWF st) : StWF st' := by
  obtain ⟨nd, be, fa⟩ := hw
  unfold takeWords at h
  split at h
  · cases h
  · rename_i w0 r
    split at h
    · split at h
      · unfold takeZooms at h
        split at h
        · obtain ⟨k, _, h⟩ := Option.bind_eq_some_iff.mp h
          split at h
          · have := Option.some.inj h
            subst this
            exact ⟨nd, be, fa⟩
          · cases h
        · cases h
      · split at h
        · unfold takeClass at h
          obtain ⟨k, _, h⟩ := Option.bind_eq_some_iff.mp h
          split at h
          · cases h
          · rename_i hk
            have := Option.some.inj h
            subst this
            refine ⟨?_, be, fa⟩
            have hk2 : k.name ∉ names st := fun z => hk (.inr z)
            show ((st.rows ++ [k]).map (·.name)).Nodup
            rw [List.map_append, List.nodup_append]
            refine ⟨nd, by simp, fun a ha b hb => ?_⟩
            rw [List.map_singleton] at hb
            rw [List.mem_singleton.mp hb]
            exact fun e => hk2 (by rw [← e]; exact ha)
        · split at h
          · unfold takeBeside at h
            split at h
            · obtain ⟨k, _, h⟩ := Option.bind_eq_some_iff.mp h
              split at h
              · cases h
              · rename_i hk
                have := Option.some.inj h
                subst this
                exact ⟨nd, be.snoc (Bool.eq_false_iff.mpr hk), fa⟩
            · cases h
          · unfold takeFar at h
            split at h
            · obtain ⟨k, _, h⟩ := Option.bind_eq_some_iff.mp h
              split at h
              · cases h
              · rename_i hk
                obtain ⟨k2, _, h⟩ := Option.bind_eq_some_iff.mp h
                split at h
                · have := Option.some.inj h
                  subst this
                  refine ⟨nd, be, ?_⟩
                  show Asc ((st.far ++ [(k, k2)]).map (·.1))
                  rw [List.map_append]
                  refine fa.snoc ?_
                  rw [List.getLast?_map, Option.any_map]
                  exact Bool.eq_false_iff.mpr hk
                · cases h
            · cases h
    · cases h
theorem readL_wf : ∀ {zs : List Str} {st st' : RSt} {n : Nat}, readL st n zs = .ok st' → StWF st → StWF st'
  | [], st, st', n, h, hw => by
    cases h
    exact hw
  | z :: zs, st, st', n, h, hw => by
    cases e : takeLine st z with
    | none =>
      rw [show readL st n (z :: zs) = match takeLine st z with | none => Except.error (n + 1) | some st' => readL st' (n + 1) zs from rfl, e] at h
      cases h
    | some s1 =>
      rw [readL_some e] at h
      exact readL_wf h (takeWords_wf (show takeWords st (Txt.split z " ") = some s1 from e) hw)
theorem readStyle_wf {x : Str} {st : RSt} (h : readStyle x = .ok st) : StWF st ∧ st.rows ≠ [] ∧ readL stZero 0 (Txt.split x "\n") = .ok st := by
  unfold readStyle at h
  split at h
  · cases h
  · rename_i s1 e
    split at h
    · cases h
    · rename_i hr
      have := Except.ok.inj h
      subst this
      exact ⟨readL_wf e StWF.zero, hr, e⟩
structure SAt (CS CW : Addr) (H : Hp) (v : V) (x : Str) (st : RSt) : Prop where
  ex : ∃ s dx a1 a2 a3 a4 vs kvs ws, v = .ref s ∧ H s = some (.ins CS dx [("own_text", .str x), ("own_last", .int st.last), ("own_rows", .ref a1), ("own_ranks", .ref a2), ("own_beside", .ref a3), ("own_far", .ref a4)]) ∧
    H a1 = some (.tup vs) ∧ RowsAt CW H vs st.rows ∧ H a2 = some (.dK kvs) ∧ (∀ z, valV kvs (.inr z) = if z ∈ names st then some (.int ((names st).idxOf z : Nat)) else none) ∧
    H a3 = some (.tup ws) ∧ RvL H ws (st.beside.map pairD) ∧ H a4 = some (.dT (st.far.map fun p => ([.inl p.1.1, .inl p.1.2], .int p.2)))
  wf : StWF st
  le : stOk 1000 st
theorem SAt.same {CS CW : Addr} {H H' : Hp} {v : V} {x : Str} {st : RSt} (s : Same H H') (h : SAt CS CW H v x st) : SAt CS CW H' v x st := by
  obtain ⟨⟨s0, dx, a1, a2, a3, a4, vs, kvs, ws, e, h1, h2, h3, h4, h5, h6, h7, h8⟩, wf, le⟩ := h
  exact ⟨⟨s0, dx, a1, a2, a3, a4, vs, kvs, ws, e, s _ _ h1, s _ _ h2, h3.same s, s _ _ h4, h5, s _ _ h6, h7.same s, s _ _ h8⟩, wf, le⟩
theorem idx_nd {l : List Str} (h : l.Nodup) {i : Nat} {z : Str} (e : l[i]? = some z) : l.idxOf z = i := by
  have hm := List.mem_of_getElem? e
  have hlt := List.idxOf_lt_length_of_mem hm
  have e1 : l[l.idxOf z]? = some z := by
    rw [List.getElem?_eq_getElem hlt]
    have := List.findIdx_getElem (p := (· == z)) (xs := l) (w := hlt)
    exact congrArg some (beq_iff_eq.mp this)
  exact nd_ix h e1 e
end SL
set_option maxHeartbeats 4000000
namespace SL
open PySem PySem.Spec PyProof.Rows L2 TL
theorem units2 {n : Nat} (h : n + 64 < cLine) : n + 2 < cLine := by omega
theorem putK_len {κ : Type} [DecidableEq κ] (kvs : List (κ × V)) (k : κ) (v : V) : (putK kvs k v).length ≤ kvs.length + 1 := by
  unfold putK
  split
  · rw [List.length_map]
    omega
  · simp
def Os (s : Addr) (H H' : Hp) : Prop := ∀ b o, b ≠ s → H b = some o → H' b = some o
theorem Os.of {s : Addr} {H H' : Hp} (h : Same H H') : Os s H H' := fun b o _ e => h b o e
theorem Os.trans {s : Addr} {H H1 H2 : Hp} (a : Os s H H1) (b : Os s H1 H2) : Os s H H2 := fun c o hc e => b c o hc (a c o hc e)
theorem Os.upd {s : Addr} {H : Hp} {o : HO} : Os s H (L2.upd H s o) := fun b u hb e => by rw [upd_ne hb]; exact e
def Sty (H : Hp) (s : Addr) : Prop := ∃ C dx fs, H s = some (.ins C dx fs) ∧ NotRow (.ins C dx fs) ∧ ∀ (v : V) (r : List (Str × V)), fs ≠ (("own_sort" : Str), v) :: r
theorem Sty.tk {H H' : Hp} {s : Addr} (h : Sty H s) (o : Os s H H') : Tk H H' := fun b xs hb => o b _ (fun e => by
  obtain ⟨C, dx, fs, h1, _⟩ := h
  rw [e, h1] at hb
  cases hb) hb
theorem RowAt.os {C s : Addr} {H H' : Hp} {v : V} {r : Row} (h : RowAt C H v r) (hs : Sty H s) (o : Os s H H') : RowAt C H' v r := by
  obtain ⟨c, dx, t1, t2, e, h1, h2, h3⟩ := h
  have n1 : c ≠ s := fun z => by
    obtain ⟨C, dx, fs, g1, g2, _⟩ := hs
    rw [z, g1] at h1
    exact g2.2 _ _ _ _ (Option.some.inj h1)
  exact ⟨c, dx, t1, t2, e, o _ _ n1 h1, hs.tk o _ _ h2, hs.tk o _ _ h3⟩
theorem RowsAt.os {C s : Addr} {H H' : Hp} {vs : List V} {rs : List Row} (h : RowsAt C H vs rs) (hs : Sty H s) (o : Os s H H') : RowsAt C H' vs rs := Paired.mono (fun _ _ x => RowAt.os x hs o) h
theorem Sty.lst {H H' : Hp} {s a : Addr} {l : List V} (hs : Sty H s) (o : Os s H H') (h : H a = some (.lst l)) : H' a = some (.lst l) := o _ _ (fun e => by
  obtain ⟨C, dx, fs, g1, _⟩ := hs
  rw [e, g1] at h
  cases h) h
theorem RAt.os {CR CW r dx a1 a2 a3 s : Addr} {H H' : Hp} {st : RSt} (h : RAt CR CW H r dx a1 a2 a3 st) (hs : Sty H s) (o : Os s H H') : RAt CR CW H' r dx a1 a2 a3 st := by
  obtain ⟨h1, ⟨v1, h2, h2'⟩, ⟨v2, h3, h3'⟩, ⟨v3, h4, h4'⟩, d1, d2, d3⟩ := h
  have n1 : r ≠ s := fun z => by
    obtain ⟨C, dx, fs, g1, _, g3⟩ := hs
    rw [z, g1] at h1
    exact g3 _ _ (HO.ins.inj (Option.some.inj h1)).2.2
  exact ⟨o _ _ n1 h1, ⟨v1, hs.lst o h2, h2'.os hs o⟩, ⟨v2, hs.lst o h3, h3'.tk (hs.tk o) (pairD_fz _)⟩, ⟨v3, hs.lst o h4, h4'.tk (hs.tk o) (farD_fz _)⟩, d1, d2, d3⟩
theorem Sty.nil {H : Hp} {s C dx : Addr} (h : H s = some (.ins C dx [])) : Sty H s := ⟨C, dx, [], h, ⟨fun _ e => (nomatch e), fun _ _ _ _ e => by
  have := (HO.ins.inj e).2.2
  cases this⟩, fun _ _ e => (nomatch e)⟩
theorem Sty.txt {H : Hp} {s C dx : Addr} {v : V} {r : List (Str × V)} (h : H s = some (.ins C dx (("own_text", v) :: r))) : Sty H s := ⟨C, dx, _, h, ⟨fun _ e => (nomatch e), fun _ _ _ _ e => by
  have h1 := congrArg Prod.fst (List.cons.inj (HO.ins.inj e).2.2).1
  exact absurd h1 (show ("own_text" : Str) ≠ "own_name" by decide)⟩, fun _ _ e => by
  have h1 := congrArg Prod.fst (List.cons.inj e).1
  exact absurd h1 (show ("own_text" : Str) ≠ "own_sort" by decide)⟩
theorem far_pairs {H : Hp} : ∀ {l : List ((Nat × Nat) × Int)} {vs : List V}, RvL H vs (l.map farD) → ∃ ps : List (Addr × Addr), vs = ps.map (fun p => V.ref p.1) ∧
    Paired (fun (p : Addr × Addr) (kv : List Key × V) => H p.1 = some (.tup [.ref p.2, kv.2]) ∧ H p.2 = some (.tup (kv.1.map kV))) ps (l.map fun p => ([.inl p.1.1, .inl p.1.2], .int p.2))
  | [], vs, h => by
    cases h
    exact ⟨[], rfl, .nil⟩
  | q :: l, vs, h => by
    cases h with
    | cons h1 h2 =>
      obtain ⟨ps, rfl, hp⟩ := far_pairs h2
      cases h1 with
      | tup g1 g2 =>
        cases g2 with
        | cons g3 g4 =>
          cases g4 with
          | cons g5 g6 =>
            cases g6
            cases g5
            cases g3 with
            | tup g7 g8 =>
              have := RvL.toInts (ns := [(q.1.1 : Int), q.1.2]) g8
              exact ⟨(_, _) :: ps, rfl, .cons ⟨g1, by rw [g7, this]; rfl⟩ hp⟩
theorem readL_ok : ∀ {zs : List Str} {st st' : RSt} {n : Nat}, readL st n zs = .ok st' → stOk n st → stOk (n + zs.length) st'
  | [], st, st', n, h, hw => by
    cases h
    exact hw
  | z :: zs, st, st', n, h, hw => by
    cases e : takeLine st z with
    | none =>
      rw [show readL st n (z :: zs) = match takeLine st z with | none => Except.error (n + 1) | some st' => readL st' (n + 1) zs from rfl, e] at h
      cases h
    | some s1 =>
      rw [readL_some e] at h
      have := readL_ok h (takeWords_len (show takeWords st (Txt.split z " ") = some s1 from e) hw).1
      rw [List.length_cons, show n + (zs.length + 1) = n + 1 + zs.length by omega]
      exact this
end SL
namespace SK
open PySem PySem.Spec PyProof.Rows L2 SL
section
variable {w : World} {K : PySem.W.Frag} {mg : Str → Option Value} {base : Heap}
abbrev cSt (K : PySem.W.Frag) : Addr := He.ga K "Style"
def txOk (x : Str) : Prop := x.length ≤ 500000 ∧ (Txt.split x "\n").length ≤ 900 ∧ ∀ z ∈ Txt.split x "\n", z.length ≤ 600
def spStyleInit (K : PySem.W.Frag) : Sp := sp2 fun self v H Q E => ∃ s dx, self = .ref s ∧ H s = some (.ins (cSt K) dx []) ∧ (∃ n, Kn H v n) ∧ (isStrV v = false → Rz H E (He.ga K "BadStyle") (.int 0)) ∧
  ∀ x, v = .str x → txOk x ∧ (∀ n, readStyle x = .error n → Rz H E (He.ga K "BadStyle") (.int (n : Nat))) ∧
    (∀ st, readStyle x = .ok st → ∀ H', Os s H H' → SAt (cSt K) (cRow K) H' (.ref s) x st → Q .non H')
abbrev n_Style_init : List Str := ["self", "text", "reader", "rank", "row"]
theorem sc_Style_init : FnScope n_Style_init ["self", "text"] (defScope d_Style_init) := ⟨rfl, rfl, rfl, by decide +kernel, rfl, by decide +kernel, by decide +kernel⟩
theorem ok_Style_init (T : Top w K mg) : Has prg w K mg base (L2.CX prg w) 8 (He.ma K (He.ga K "Style") "__init__") ["self", "text"] (spStyleInit K) := by
  obtain ⟨fd, F⟩ := T.F_Style_init
  obtain ⟨fd_read_style, G_read_style, b_read_style, k_read_style⟩ := ok_read_style (base := base) T
  refine ⟨fd, F.ok (k := 7) sc_Style_init (fun _ _ _ _ h => sp2_len h) (fun cdv A outer s H vs Q E hr h => ?_), F.bindsN (fun _ _ _ _ _ _ us hl => match us, hl with | [_, _], _ => rfl), F.kp⟩
  obtain ⟨v0, v1, rfl, h⟩ := h
  refine ⟨_, (pss_cons (ps_set (i := 2) sc_Style_init.nd rfl (Or.inl rfl) (pe_call G_read_style (hr.mono (by decide)) (by rfl) T.g_read_style k_read_style b_read_style .nil (passes_call (takes_of rfl rfl rfl rfl) (fun _ _ _ _ h => h)) (pa_cons (pv 1) pa_nil)))
    (pss_cons (ps_fld (pv 0) (pv 1) rfl)
    (pss_cons (ps_fld (pv 0) (pe_fld (pv 2) rfl) rfl)
    (pss_cons (ps_fld (pv 0) (pe_callTy call_tuple_of (by rfl) T.b_tuple boot_tuple (pa_cons (pe_fld (pv 2) rfl) pa_nil)) rfl)
    (pss_cons (ps_fld (pv 0) (pe_dc (own := [("rank", 3), ("row", 4)]) (g := gTup K 2 (gCons (gName 3) (gCons (gName 4) gNil))) (by rfl) sc_Style_init.nd (pi_enum (by rfl) T.b_enumerate (pa_cons (pe_fld (pv 2) rfl) pa_nil)) (blkOk_by (N := n_Style_init) (sc := defScope d_Style_init) (own := [("rank", 3), ("row", 4)]) (by decide +kernel)) (fun _ _ _ _ _ => (pg_tup rfl (pgs_cons (pg_name (i := 3) sc_Style_init.nd rfl (Or.inl rfl) (.inr rfl)) (pgs_cons (pg_name (i := 4) sc_Style_init.nd rfl (Or.inl rfl) (.inr rfl)) pgs_nil)))) (fun _ _ _ _ _ => pts_nil) (fun _ _ _ _ _ => (pe_fldK (K := K) rfl (pv 4) rfl)) (fun _ _ _ _ _ => (pv 3))) rfl)
    (pss_cons (ps_fld (pv 0) (pe_callTy call_tuple_of (by rfl) T.b_tuple boot_tuple (pa_cons (pe_fld (pv 2) rfl) pa_nil)) rfl)
    (pss_one (ps_fld (pv 0) (pe_callTy (call_dictT (by rfl) (units2 hr.units)) (by rfl) T.b_dict boot_dict (pa_cons (pe_fld (pv 2) rfl) pa_nil)) rfl)))))))), ?_⟩
  obtain ⟨s0, dx, rfl, hs0, kn, hbad, hx⟩ := h
  refine ⟨_, rfl, _, rfl, kn, hbad, fun x e => ?_⟩
  obtain ⟨⟨hx1, hx2, hx3⟩, herr, hok⟩ := hx x e
  subst e
  refine ⟨hx1, hx2, hx3, herr, fun st hst H1 r dr a1 a2 a3 s1 R1 => ?_⟩
  have hq := hok st hst
  obtain ⟨wf, hrn, hrl⟩ := readStyle_wf hst
  have hle : stOk 1000 st := (readL_ok hrl ⟨Nat.le_refl _, Nat.le_refl _, Nat.le_refl _⟩).mono (by omega)
  have hs1 := s1 _ _ hs0
  refine ⟨_, rfl, _, rfl, s0, _, dx, _, rfl, hs1, T.cl_Style, T.na_Style_own_text, by decide, ?_⟩
  have o2 : Os s0 H (upd H1 s0 (.ins (cSt K) dx (putF "own_text" (.str x) []))) := (Os.of s1).trans Os.upd
  have R2 := R1.os (Sty.nil hs1) (Os.upd (o := .ins (cSt K) dx (putF "own_text" (.str x) [])))
  have hs2 : upd H1 s0 (.ins (cSt K) dx (putF "own_text" (.str x) [])) s0 = some (.ins (cSt K) dx [("own_text", .str x)]) := upd_same
  generalize upd H1 s0 (.ins (cSt K) dx (putF "own_text" (.str x) [])) = H2 at o2 R2 hs2 ⊢
  refine ⟨_, rfl, r, _, dr, _, _, rfl, R2.obj, T.cl_Reader, T.na_Reader_own_last, rfl, _, rfl, s0, _, dx, _, rfl, hs2, T.cl_Style, T.na_Style_own_last, by show 1 < 1000; decide, ?_⟩
  have o3 := o2.trans (Os.upd (o := .ins (cSt K) dx (putF "own_last" (.int st.last) [("own_text", .str x)])))
  have R3 := R2.os (Sty.txt hs2) (Os.upd (o := .ins (cSt K) dx (putF "own_last" (.int st.last) [("own_text", .str x)])))
  have hs3 : upd H2 s0 (.ins (cSt K) dx (putF "own_last" (.int st.last) [("own_text", .str x)])) s0 = some (.ins (cSt K) dx [("own_text", .str x), ("own_last", .int st.last)]) := upd_same
  generalize upd H2 s0 (.ins (cSt K) dx (putF "own_last" (.int st.last) [("own_text", .str x)])) = H3 at o3 R3 hs3 ⊢
  obtain ⟨vs, hv, hR⟩ := R3.rows
  refine ⟨_, rfl, r, _, dr, _, _, rfl, R3.obj, T.cl_Reader, T.na_Reader_own_rows, rfl, a1, _, rfl, .inl ⟨SqL.of hv, fun t1 ht1 => ?_⟩⟩
  have s4 : Same H3 (upd H3 t1 (.tup vs)) := same_new ht1
  have h4t : upd H3 t1 (.tup vs) t1 = some (.tup vs) := upd_same
  have hs4 := s4 _ _ hs3
  have o4 := o3.trans (Os.of s4)
  have R4 := R3.same s4
  have hR4 := hR.same s4
  generalize upd H3 t1 (.tup vs) = H4 at h4t hs4 o4 R4 hR4 ⊢
  refine ⟨_, rfl, s0, _, dx, _, rfl, hs4, T.cl_Style, T.na_Style_own_rows, by show 2 < 1000; decide, ?_⟩
  have u5 : Os s0 H4 (upd H4 s0 (.ins (cSt K) dx (putF "own_rows" (.ref t1) [("own_text", .str x), ("own_last", .int st.last)]))) := Os.upd
  have o5 := o4.trans u5
  have R5 := R4.os (Sty.txt hs4) u5
  have hR5 := hR4.os (Sty.txt hs4) u5
  have h5t := (Sty.txt hs4).tk u5 _ _ h4t
  have hs5 : upd H4 s0 (.ins (cSt K) dx (putF "own_rows" (.ref t1) [("own_text", .str x), ("own_last", .int st.last)])) s0 = some (.ins (cSt K) dx [("own_text", .str x), ("own_last", .int st.last), ("own_rows", .ref t1)]) := upd_same
  generalize upd H4 s0 (.ins (cSt K) dx (putF "own_rows" (.ref t1) [("own_text", .str x), ("own_last", .int st.last)])) = H5 at o5 R5 hR5 h5t hs5 ⊢
  obtain ⟨vs', hv5, hR5'⟩ := R5.rows
  have hln : (names st).length = st.rows.length := by simp [names]
  have hlen5 := hR5'.len
  refine ⟨_, rfl, r, _, dr, _, _, rfl, R5.obj, T.cl_Reader, T.na_Reader_own_rows, rfl, a1, _, rfl, SqL.of hv5, fun D hD => ?_⟩
  refine dc_it (walk_enum (K := K) (a := a1) (xs := vs')) (fun i H' => Same H5 H' ∧ ∃ kvs, H' D = some (.dK kvs) ∧ kvs.length ≤ i ∧ ∀ z, valV kvs (.inr z) = if z ∈ (names st).take i then some (.int ((names st).idxOf z : Nat)) else none)
    ⟨same_new hD, [], upd_same, Nat.le_refl _, fun z => by simp [valV]⟩ (fun i H' _ p => SqL.of (p.1 _ _ hv5)) ?_ ?_
  · rintro i y H6 H7 hi ⟨s6, kvs, hk, hkl, hval⟩ ⟨Tt, x1, y1, rfl, hT, rfl, e1, e2⟩
    cases e1
    obtain ⟨row, hrow, hra⟩ := hR5'.get (show vs'[i]? = some y1 from e2)
    have s7 : Same H6 (upd H6 Tt (.tup [V.int i, y1])) := same_new hT
    obtain ⟨c, dc, tt1, tt2, rfl, hc, _, _⟩ := hra.same (s6.trans s7)
    refine ⟨Tt, _, rfl, SqT.of upd_same, rfl, _, _, rfl, _, _, rfl, rfl, rfl, ?_⟩
    refine ⟨_, rfl, c, _, dc, _, _, rfl, hc, T.cl_ClassRow, T.na_ClassRow_own_name, rfl, _, rfl, kvs, .inr row.name, rfl, s7 _ _ hk, ?_, ?_⟩
    · have : i < 1001 := by
        rw [hlen5] at hi
        have := hle.1
        omega
      exact Nat.lt_of_le_of_lt hkl (Nat.lt_trans this (by decide))
    · have hnm : (names st)[i]? = some row.name := by
        show (st.rows.map (·.name))[i]? = _
        rw [List.getElem?_map, hrow]
        rfl
      refine ⟨fun b o hb => ?_, _, upd_same, Nat.le_trans (putK_len _ _ _) (by omega), fun z => ?_⟩
      · rw [upd_ne (ne_of_none hb hD)]
        exact s7 _ _ (s6 _ _ hb)
      · rw [valV_put]
        have htk : (names st).take (i + 1) = (names st).take i ++ [row.name] := by
          rw [List.take_succ, hnm]
          rfl
        rw [htk, hval]
        by_cases hz : z = row.name
        · subst hz
          rw [if_pos rfl, if_pos (by simp), idx_nd wf.nd hnm]
        · rw [if_neg (fun e => hz (Sum.inr.inj e))]
          simp [hz]
  intro H6 ⟨s6, kvs, hk, hkl, hval⟩
  rw [hlen5, ← hln, List.take_length] at hval
  have hs6 := s6 _ _ hs5
  refine ⟨_, rfl, s0, _, dx, _, rfl, hs6, T.cl_Style, T.na_Style_own_ranks, by show 3 < 1000; decide, ?_⟩
  have u7 : Os s0 H6 (upd H6 s0 (.ins (cSt K) dx (putF "own_ranks" (.ref D) [("own_text", .str x), ("own_last", .int st.last), ("own_rows", .ref t1)]))) := Os.upd
  have o7 := (o5.trans (Os.of s6)).trans u7
  have R7 := (R5.same s6).os (Sty.txt hs6) u7
  have hR7 := (hR5.same s6).os (Sty.txt hs6) u7
  have h7t := (Sty.txt hs6).tk u7 _ _ (s6 _ _ h5t)
  have nD : D ≠ s0 := fun e => by rw [e, hs6] at hk; cases hk
  have h7k := u7 _ _ nD hk
  have hs7 : upd H6 s0 (.ins (cSt K) dx (putF "own_ranks" (.ref D) [("own_text", .str x), ("own_last", .int st.last), ("own_rows", .ref t1)])) s0 = some (.ins (cSt K) dx [("own_text", .str x), ("own_last", .int st.last), ("own_rows", .ref t1), ("own_ranks", .ref D)]) := upd_same
  generalize upd H6 s0 (.ins (cSt K) dx (putF "own_ranks" (.ref D) [("own_text", .str x), ("own_last", .int st.last), ("own_rows", .ref t1)])) = H7 at o7 R7 hR7 h7t h7k hs7 ⊢
  obtain ⟨bs, hb7, hB7⟩ := R7.beside
  refine ⟨_, rfl, r, _, dr, _, _, rfl, R7.obj, T.cl_Reader, T.na_Reader_own_beside, rfl, a2, _, rfl, .inl ⟨SqL.of hb7, fun t3 ht3 => ?_⟩⟩
  have s8 : Same H7 (upd H7 t3 (.tup bs)) := same_new ht3
  have h8b : upd H7 t3 (.tup bs) t3 = some (.tup bs) := upd_same
  have hs8 := s8 _ _ hs7
  have o8 := o7.trans (Os.of s8)
  have R8 := R7.same s8
  have hR8 := hR7.same s8
  have h8t := s8 _ _ h7t
  have h8k := s8 _ _ h7k
  have hB8 := hB7.same s8
  generalize upd H7 t3 (.tup bs) = H8 at h8b hs8 o8 R8 hR8 h8t h8k hB8 ⊢
  refine ⟨_, rfl, s0, _, dx, _, rfl, hs8, T.cl_Style, T.na_Style_own_beside, by show 4 < 1000; decide, ?_⟩
  have u9 : Os s0 H8 (upd H8 s0 (.ins (cSt K) dx (putF "own_beside" (.ref t3) [("own_text", .str x), ("own_last", .int st.last), ("own_rows", .ref t1), ("own_ranks", .ref D)]))) := Os.upd
  have o9 := o8.trans u9
  have R9 := R8.os (Sty.txt hs8) u9
  have hR9 := hR8.os (Sty.txt hs8) u9
  have h9t := (Sty.txt hs8).tk u9 _ _ h8t
  have h9b := (Sty.txt hs8).tk u9 _ _ h8b
  have h9k := u9 _ _ nD h8k
  have hB9 := hB8.tk ((Sty.txt hs8).tk u9) (pairD_fz _)
  have hs9 : upd H8 s0 (.ins (cSt K) dx (putF "own_beside" (.ref t3) [("own_text", .str x), ("own_last", .int st.last), ("own_rows", .ref t1), ("own_ranks", .ref D)])) s0 = some (.ins (cSt K) dx [("own_text", .str x), ("own_last", .int st.last), ("own_rows", .ref t1), ("own_ranks", .ref D), ("own_beside", .ref t3)]) := upd_same
  generalize upd H8 s0 (.ins (cSt K) dx (putF "own_beside" (.ref t3) [("own_text", .str x), ("own_last", .int st.last), ("own_rows", .ref t1), ("own_ranks", .ref D)])) = H9 at o9 R9 hR9 h9t h9b h9k hB9 hs9 ⊢
  obtain ⟨fs, hf9, hF9⟩ := R9.far
  obtain ⟨ps, hps, hpp⟩ := far_pairs hF9
  subst hps
  refine ⟨_, rfl, r, _, dr, _, _, rfl, R9.obj, T.cl_Reader, T.na_Reader_own_far, rfl, a3, ps, _, rfl, SqL.of hf9, hpp.mono (fun p kv h => ⟨SqT.of h.1, h.2⟩), ?_, fun t4 ht4 => ?_⟩
  · rw [List.map_map]
    have : ((fun x : List Key × V => x.1) ∘ fun p : (Nat × Nat) × Int => (([.inl p.1.1, .inl p.1.2] : List Key), V.int p.2)) = (fun q : Nat × Nat => ([.inl q.1, .inl q.2] : List Key)) ∘ fun p : (Nat × Nat) × Int => p.1 := rfl
    rw [this, ← List.map_map]
    refine (wf.fa.nodup).map _ fun a b hab e => hab ?_
    have e1 := (List.cons.inj e).1
    have e2 := (List.cons.inj (List.cons.inj e).2).1
    have e1 := Sum.inl.inj e1
    have e2 := Sum.inl.inj e2
    exact Prod.ext (by omega) (by omega)
  · have s10 := same_new (o := .dT (st.far.map fun p => (([.inl p.1.1, .inl p.1.2] : List Key), V.int p.2))) ht4
    have hs10 := s10 _ _ hs9
    refine ⟨_, rfl, s0, _, dx, _, rfl, hs10, T.cl_Style, T.na_Style_own_far, by show 5 < 1000; decide, ?_⟩
    have u11 := Os.upd (s := s0) (H := upd H9 t4 (.dT (st.far.map fun p => (([.inl p.1.1, .inl p.1.2] : List Key), V.int p.2)))) (o := .ins (cSt K) dx (putF "own_far" (.ref t4) [("own_text", .str x), ("own_last", .int st.last), ("own_rows", .ref t1), ("own_ranks", .ref D), ("own_beside", .ref t3)]))
    have n4 : t4 ≠ s0 := fun e => by rw [e, hs9] at ht4; cases ht4
    refine hq _ ((o9.trans (Os.of s10)).trans u11) ⟨⟨s0, dx, t1, D, t3, t4, vs, kvs, bs, rfl, upd_same, (Sty.txt hs10).tk u11 _ _ (s10 _ _ h9t), (hR9.same s10).os (Sty.txt hs10) u11, u11 _ _ nD (s10 _ _ h9k), hval, (Sty.txt hs10).tk u11 _ _ (s10 _ _ h9b), (hB9.same s10).tk ((Sty.txt hs10).tk u11) (pairD_fz _), u11 _ _ n4 upd_same⟩, wf, hle⟩
end
end SK
set_option maxHeartbeats 4000000
namespace SL
open PySem PySem.Spec PyProof.Rows L2 TL
mutual
theorem Rv.dp {K : PySem.W.Frag} {H : Hp} : ∀ {v : V} {d : PyData}, Rv H v d → fz d = true → Dp K H v d
  | _, _, .non, _ => .non
  | _, _, .bl b, _ => .bl b
  | _, _, .int i, _ => .int i
  | _, _, .str x, _ => .str x
  | _, _, .lst h r, f => by simp [fz] at f
  | _, _, .tup h r, f => .tup (SqT.of h) (RvL.dp r (by simpa [fz] using f))
  | _, _, .dK h k r, f => by simp [fz] at f
theorem RvL.dp {K : PySem.W.Frag} {H : Hp} : ∀ {vs : List V} {ds : List PyData}, RvL H vs ds → fzAll ds = true → DpAll K H vs ds
  | _, _, .nil, _ => .nil
  | _, _, .cons h r, f => by
    simp only [fzAll, Bool.and_eq_true] at f
    exact .cons (Rv.dp h f.1) (RvL.dp r f.2)
end
theorem pairD_eqv (p q : Nat × Nat) : PyData.eqv (pairD p) (pairD q) = decide (p = q) := by
  obtain ⟨a, b⟩ := p
  obtain ⟨c, d⟩ := q
  simp only [pairD, PyData.eqv, PyData.eqvAll, Bool.and_true]
  by_cases h1 : a = c <;> by_cases h2 : b = d <;> simp [h1, h2] <;> omega
theorem pairD_shp (p : Nat × Nat) : Shp 1 (pairD p) := Shp.tup (m := 0) fun d hd => by
  simp only [List.mem_cons, List.not_mem_nil, or_false] at hd
  rcases hd with rfl | rfl <;> exact Shp.int _
def rankP (i j : Nat) : Nat × Nat := if i ≤ j then (i, j) else (j, i)
def farOf (st : RSt) (p : Nat × Nat) : Int := ((st.far.find? fun q => decide (q.1 = p)).map (·.2)).getD 0
theorem far_val (l : List ((Nat × Nat) × Int)) (p : Nat × Nat) : valV (l.map fun q => (([.inl q.1.1, .inl q.1.2] : List Key), V.int q.2)) [.inl p.1, .inl p.2] = ((l.find? fun q => decide (q.1 = p)).map fun q => V.int q.2) := by
  induction l with
  | nil => rfl
  | cons q l ih =>
    rw [List.map_cons]
    by_cases h : q.1 = p
    · subst h
      rw [valV_pos rfl, List.find?_cons_of_pos (by simp)]
      rfl
    · rw [valV_neg (fun e => h (by
        have e1 := Sum.inl.inj (List.cons.inj e).1
        have e2 := Sum.inl.inj (List.cons.inj (List.cons.inj e).2).1
        exact Prod.ext (by omega) (by omega))), ih, List.find?_cons_of_neg (by simpa using h)]
end SL
namespace SK
open PySem PySem.Spec PyProof.Rows L2 SL
section
variable {w : World} {K : PySem.W.Frag} {mg : Str → Option Value} {base : Heap}
abbrev StAt (K : PySem.W.Frag) (H : Hp) (v : V) (x : Str) (st : RSt) : Prop := SAt (cSt K) (cRow K) H v x st
def spRankPair : Sp := sp2 fun a b H Q _ => ∃ i j : Nat, a = .int i ∧ b = .int j ∧ ∀ H' t, Same H H' → H' t = some (.tup [.int (rankP i j).1, .int (rankP i j).2]) → Q (.ref t) H'
abbrev n_rank_pair : List Str := ["one", "other"]
theorem sc_rank_pair : FnScope n_rank_pair ["one", "other"] (defScope d_rank_pair) := ⟨rfl, rfl, rfl, by decide +kernel, rfl, by decide +kernel, by decide +kernel⟩
theorem ok_rank_pair (T : Top w K mg) : Has prg w K mg base CX0 1 (He.ga K "rank_pair") ["one", "other"] spRankPair := by
  obtain ⟨fd, F⟩ := T.F_rank_pair
  refine ⟨fd, F.ok (k := 0) sc_rank_pair (fun _ _ _ _ h => sp2_len h) (fun cdv A outer s H vs Q E hr h => ?_), F.bindsN (fun _ _ _ _ _ _ us hl => match us, hl with | [_, _], _ => rfl), F.kp⟩
  obtain ⟨v0, v1, rfl, h⟩ := h
  refine ⟨_, PSs.nox (pss_one (ps_ret (pe_ifExp (pt_cmpR op_le (pv 0) (pv 1) (nomark _)) (pe_tup (pa_cons (pv 0) (pa_cons (pv 1) pa_nil))) (pe_tup (pa_cons (pv 1) (pa_cons (pv 0) pa_nil)))))), ?_⟩
  obtain ⟨i, j, rfl, rfl, q⟩ := h
  refine ⟨_, rfl, _, rfl, _, _, rfl, rfl, _, rfl, ?_⟩
  by_cases hle : i ≤ j
  · rw [decide_eq_true (show (i : Int) ≤ j by omega)]
    refine ⟨_, rfl, _, rfl, (by show 2 ≤ sizeLine; decide), fun t ht => q _ t (same_new ht) ?_⟩
    rw [upd_same, show rankP i j = (i, j) from if_pos hle]
  · rw [decide_eq_false (show ¬ (i : Int) ≤ j by omega)]
    refine ⟨_, rfl, _, rfl, (by show 2 ≤ sizeLine; decide), fun t ht => q _ t (same_new ht) ?_⟩
    rw [upd_same, show rankP i j = (j, i) from if_neg hle]
def spDist (K : PySem.W.Frag) : Sp := sp3 fun self a b H Q _ => ∃ x st, ∃ i j : Nat, StAt K H self x st ∧ a = .int i ∧ b = .int j ∧ ∀ H', Same H H' → Q (.int (farOf st (rankP i j))) H'
abbrev n_Style_distance : List Str := ["self", "one", "other"]
theorem sc_Style_distance : FnScope n_Style_distance ["self", "one", "other"] (defScope d_Style_distance) := ⟨rfl, rfl, rfl, by decide +kernel, rfl, by decide +kernel, by decide +kernel⟩
theorem ok_Style_distance (T : Top w K mg) : Has prg w K mg base CX0 2 (He.ma K (He.ga K "Style") "distance") ["self", "one", "other"] (spDist K) := by
  obtain ⟨fd, F⟩ := T.F_Style_distance
  obtain ⟨fd_rank_pair, G_rank_pair, b_rank_pair, k_rank_pair⟩ := ok_rank_pair (base := base) T
  refine ⟨fd, F.ok (k := 1) sc_Style_distance (fun _ _ _ _ h => sp3_len h) (fun cdv A outer s H vs Q E hr h => ?_), F.bindsN (fun _ _ _ _ _ _ us hl => match us, hl with | [_, _, _], _ => rfl), F.kp⟩
  obtain ⟨v0, v1, v2, rfl, h⟩ := h
  refine ⟨_, PSs.nox (pss_one (ps_ret (pe_dget2 (hu_of hr) (pe_fld (pv 0) rfl) (pe_call G_rank_pair (hr.mono (by decide)) (by rfl) T.g_rank_pair k_rank_pair b_rank_pair .nil pass0 (pa_cons (pv 1) (pa_cons (pv 2) pa_nil))) pe_int ⟨rfl, rfl, rfl, rfl⟩))), ?_⟩
  obtain ⟨x, st, i, j, S, rfl, rfl, q⟩ := h
  obtain ⟨⟨s0, dx, a1, a2, a3, a4, vs, kvs, ws, rfl, h1, h2, h3, h4, h5, h6, h7, h8⟩, wf, le⟩ := id S
  refine ⟨_, rfl, s0, _, dx, _, _, rfl, h1, T.cl_Style, T.na_Style_own_far, rfl, a4, rfl, .inr ⟨_, .inl h8⟩, _, rfl, _, rfl, _, _, rfl, i, j, rfl, rfl, fun H1 t s1 ht => ?_⟩
  refine ⟨_, DGet.t (k := [.inl (rankP i j).1, .inl (rankP i j).2]) (s1 _ _ h8) ht, ?_⟩
  rw [far_val]
  have e : ((st.far.find? fun q => decide (q.1 = rankP i j)).map fun q => V.int q.2).getD (V.int 0) = V.int (farOf st (rankP i j)) := by
    unfold farOf
    cases st.far.find? fun q => decide (q.1 = rankP i j) <;> rfl
  rw [e]
  exact q _ s1
end
end SK
set_option maxHeartbeats 4000000
namespace SL
open PySem PySem.Spec PyProof.Rows L2 TL
theorem fm_filter {α β : Type} (p : α → Bool) (f : α → β) : ∀ l : List α, l.filterMap (fun a => if p a = true then some (f a) else none) = (l.filter p).map f
  | [] => rfl
  | a :: l => by
    rw [List.filterMap_cons, List.filter_cons, fm_filter p f l]
    cases h : p a <;> simp
end SL
namespace SK
open PySem PySem.Spec PyProof.Rows L2 SL
section
variable {w : World} {K : PySem.W.Frag} {mg : Str → Option Value} {base : Heap}
end
end SK
set_option maxHeartbeats 4000000
namespace SL
open PySem PySem.Spec PyProof.Rows L2
def sgn (z : Str) : List Str := z.cps.toList.map fun c => ⟨#[c]⟩
section
variable {X : Cx}
theorem call_listS (hc : X.calm = true) : CallR X (.type "list") (fun xs H Q => ∃ z, xs = [.str z] ∧ z.length ≤ sizeLine ∧ ∀ p, H p = none → Q (.ref p) (upd H p (.lst ((sgn z).map V.str)))) := by
  intro pins s σ H xs us Q I r q
  obtain ⟨z, ex, hz, q⟩ := q
  subst ex
  obtain ⟨u, eu, rx⟩ := vals1 r
  subst eu
  obtain ⟨t, rfl⟩ := rx
  refine call_list_str (I.ok.hd hc) z t (fun h' tk acc c' hk e hi => ?_) hz
  have hl : (sgn z).length = z.cps.size := by unfold sgn; rw [List.length_map, Array.length_toList]
  refine ⟨.ref s.heap.objs.size, upd H s.heap.objs.size (.lst ((sgn z).map V.str)), I.laid hk (Nat.le_refl _) ⟨by rw [List.length_map, hl]; exact hz, acc.toList, c', ?_, by rw [Array.toArray_toList]; exact e⟩, rfl, q _ (I.hok.fresh (Nat.le_refl _))⟩
  refine vals_of_idx _ _ (by rw [List.length_map, hl, Array.length_toList]; exact hi.1) fun j u hj => ?_
  obtain ⟨c, t', hc, rfl⟩ := hi.2 j u (by rw [← Array.getElem?_toList]; exact hj)
  exact ⟨.str ⟨#[c]⟩, by simp [sgn, hc], ⟨_, rfl⟩⟩
end
end SL
set_option maxHeartbeats 4000000
namespace SL
open PySem PySem.Spec PyProof.Rows L2
def spTakeL : Sp := sp2 fun a b H Q E => spTake [a, b] H Q E
def spOfL : Sp := sp2 fun a b H Q E => spOf [a, b] H Q E ∨ ∃ (p q : Addr) (f : Nat) (l xs : List V), a = .ref p ∧ b = .ref q ∧ H p = some (.lst l) ∧ PotL (f + 1) l ∧ H q = some (.tup xs) ∧ 0 < xs.length ∧ xs.length ≤ 1000000 ∧ ∀ x l' H', x ∈ xs → PotL f l' → H' p = some (.lst l') → Kp p H H' → Q x H'
def spPotL (K : PySem.W.Frag) : Sp := sp2 fun a b H Q E => spPot K [a, b] H Q E
end SL
namespace SK
open PySem PySem.Spec PyProof.Rows L2 SL
section
variable {w : World} {K : PySem.W.Frag} {mg : Str → Option Value} {base : Heap}
abbrev n_law_take : List Str := ["_law_pot_here", "_law_upto", "_law_prime", "_law_mixed", "_law_digit"]
theorem sc_law_take : FnScope n_law_take ["_law_pot_here", "_law_upto"] (defScope d_law_take) := ⟨rfl, rfl, rfl, by decide +kernel, rfl, by decide +kernel, by decide +kernel⟩
theorem ok_law_take (T : Top w K mg) : Has prg w K mg base CX0 1 (He.ga K "_law_take") ["_law_pot_here", "_law_upto"] spTakeL := by
  obtain ⟨fd, F⟩ := T.F_law_take
  refine ⟨fd, F.ok (k := 0) sc_law_take (fun _ _ _ _ h => sp2_len h) (fun cdv A outer s H vs Q E hr h => ?_), F.bindsN (fun _ _ _ _ _ _ us hl => match us, hl with | [_, _], _ => rfl), F.kp⟩
  obtain ⟨v0, v1, rfl, h⟩ := h
  refine ⟨_, PSs.nox (pss_cons (ps_if (pt_cmpR op_gt (pe_ix ix_list (pv 0) pe_int (fun _ _ => rfl)) pe_int (nomark _)) (pss_cons (ps_set (i := 4) sc_law_take.nd rfl (Or.inl rfl) (pe_op op_mod (pe_callTy call_int1 (by rfl) T.b_int boot_int (pa_cons (pe_ix ix_list (pv 0) pe_int (fun _ _ => rfl)) pa_nil)) (pv 1)))
    (pss_cons (ps_asg (pe_op op_fdivW (pe_ix ix_list (pv 0) pe_int (fun _ _ => rfl)) (pv 1)) (pg_sub (pv 0) pe_int set_list))
    (pss_one (ps_ret (pv 4))))) pss_nil)
    (pss_cons (ps_asg (pe_op op_add (pe_ix ix_list (pv 0) pe_int (fun _ _ => rfl)) pe_int) (pg_sub (pv 0) pe_int set_list))
    (pss_cons (ps_set (i := 2) sc_law_take.nd rfl (Or.inl rfl) (pe_ix ix_list (pe_lst (pa_cons pe_int (pa_cons pe_int (pa_cons pe_int (pa_cons pe_int (pa_cons pe_int pa_nil)))))) (pe_op op_mod (pe_callTy call_int1 (by rfl) T.b_int boot_int (pa_cons (pe_ix ix_list (pv 0) pe_int (fun _ _ => rfl)) pa_nil)) pe_int) (fun _ _ => rfl)))
    (pss_cons (ps_set (i := 3) sc_law_take.nd rfl (Or.inl rfl) (pe_op op_mod (pe_callTy call_int1 (by rfl) T.b_int boot_int (pa_cons (pe_op op_powW (pe_callTy call_int1 (by rfl) T.b_int boot_int (pa_cons (pe_op op_add (pe_op op_add (pe_ix ix_list (pv 0) pe_int (fun _ _ => rfl)) (pe_op op_mul (pe_op op_mul pe_int (pe_ix ix_list (pv 0) pe_int (fun _ _ => rfl))) (pe_ix ix_list (pv 0) pe_int (fun _ _ => rfl)))) pe_int) pa_nil)) pe_int) pa_nil)) (pv 2)))
    (pss_cons (ps_set (i := 3) sc_law_take.nd rfl (Or.inl rfl) (pe_op op_mod (pe_callTy call_int1 (by rfl) T.b_int boot_int (pa_cons (pe_op op_mul (pv 3) (pe_op op_add (pe_op op_mod (pe_callTy call_int1 (by rfl) T.b_int boot_int (pa_cons (pv 3) pa_nil)) pe_int) (pe_op op_mul pe_int (pe_ix ix_list (pv 0) pe_int (fun _ _ => rfl))))) pa_nil)) pe_int))
    (pss_one (ps_ret (pe_op op_mod (pe_callTy call_int1 (by rfl) T.b_int boot_int (pa_cons (pe_op op_fdivW (pv 3) pe_int) pa_nil)) (pv 1))))))))), ?_⟩
  obtain ⟨p, n, f, l, e, hp, ⟨o, m, c, rfl, h1, h2, h3, h4, h5, h6⟩, hn, hn2, k⟩ := h
  cases e
  -- if pot[0] > 0
  refine ⟨_, rfl, p, _, _, _, rfl, rfl, SqL.of hp, rfl, _, _, rfl, rfl, _, rfl, ?_⟩
  refine ite2 (fun h0 => ?_) (fun h0 => ?_)
  · have h0' : 0 < o := of_decide_eq_true h0
    have hq : CDivW o n := wide_div (b := 60) hn (by omega) (by decide) (by decide)
    refine ⟨_, rfl, p, _, _, _, rfl, rfl, SqL.of hp, rfl, .inl ⟨_, rfl, _, rfl, _, _, rfl, rfl, hn, ?_⟩⟩
    refine ⟨_, rfl, p, _, _, _, rfl, rfl, SqL.of hp, rfl, _, rfl, _, _, rfl, rfl, hq, _, rfl, p, _, _, 0, rfl, rfl, hp, rfl, ?_⟩
    refine ⟨_, rfl, ?_⟩
    refine k _ _ _ (Int.emod_nonneg _ (by omega)) (Int.emod_lt_of_pos _ hn) ⟨o / n, m, c, rfl, Int.ediv_nonneg h1 (by omega), ?_, h3, h4, h5, by omega⟩ upd_same Kp.upd
    exact Int.lt_of_le_of_lt (Int.ediv_le_self _ h1) h2
  · -- pot[2] = pot[2] + 1
    refine ⟨_, rfl, p, _, _, _, rfl, rfl, SqL.of hp, rfl, _, _, rfl, rfl, _, rfl, p, _, _, 2, rfl, rfl, hp, rfl, ?_⟩
    have hp1 : upd H p (.lst [V.int o, V.int m, V.int (c + 1)]) p = some (.lst [V.int o, V.int m, V.int (c + 1)]) := upd_same
    -- prime = [..][int(pot[2]) % 5]
    refine ⟨(by show 5 ≤ sizeLine; decide), fun q hq => ?_⟩
    have npq : p ≠ q := ne_of_none hp1 hq
    have hp2 : upd (upd H p (.lst [V.int o, V.int m, V.int (c + 1)])) q (.lst [V.int 2147483647, V.int 2147483629, V.int 2147483587, V.int 2147483579, V.int 2147483563]) p = some (.lst [V.int o, V.int m, V.int (c + 1)]) := by
      rw [upd_ne npq]
      exact hp1
    have kp2 : Kp p H (upd (upd H p (.lst [V.int o, V.int m, V.int (c + 1)])) q (.lst [V.int 2147483647, V.int 2147483629, V.int 2147483587, V.int 2147483579, V.int 2147483563])) := Kp.upd.new hq
    obtain ⟨pr, hat, hmem⟩ := atI_mod (xs := [V.int 2147483647, V.int 2147483629, V.int 2147483587, V.int 2147483579, V.int 2147483563]) (i := (c + 1) % 5) (n := 5) rfl (Int.emod_nonneg _ (by decide)) (Int.emod_lt_of_pos _ (by decide))
    obtain ⟨pi, rfl, hpi0, hpi1⟩ : ∃ pi : Int, pr = V.int pi ∧ 0 < pi ∧ pi < 2 ^ 31 := by
      simp only [List.mem_cons, List.not_mem_nil, or_false] at hmem
      rcases hmem with rfl | rfl | rfl | rfl | rfl <;> exact ⟨_, rfl, by decide, by decide⟩
    refine ⟨_, rfl, p, _, _, _, rfl, rfl, SqL.of hp2, rfl, .inl ⟨_, rfl, _, _, rfl, rfl, (by show (0 : Int) < 5; decide), q, _, _, _, rfl, rfl, SqL.of upd_same, hat, ?_⟩⟩
    -- mixed = int(int(pot[1] + 104707 * pot[2] * pot[2] + 31) ** 3) % prime
    have hc1 : 0 ≤ c + 1 := by omega
    have hc2 : c + 1 ≤ 1000000 := by omega
    have hsq0 : 0 ≤ 104707 * (c + 1) * (c + 1) := Int.mul_nonneg (by omega) hc1
    have hsq1 : 104707 * (c + 1) * (c + 1) ≤ 104707 * 1000000 * 1000000 := Int.mul_le_mul (by omega) hc2 hc1 (by decide)
    refine ⟨_, rfl, p, _, _, _, rfl, rfl, SqL.of hp2, rfl, _, rfl, p, _, _, _, rfl, rfl, SqL.of hp2, rfl, _, _, rfl, rfl, .inl ⟨by decide, by decide⟩, _, rfl, p, _, _, _, rfl, rfl, SqL.of hp2, rfl, _, _, rfl, rfl, .inr ⟨by omega, by omega⟩, _, _, rfl, rfl, _, _, rfl, rfl, ?_⟩
    have hx0 : 0 ≤ m + 104707 * (c + 1) * (c + 1) + 31 := by omega
    have hx1 : m + 104707 * (c + 1) * (c + 1) + 31 < 2 ^ 63 := by omega
    have hb3 := bits_le (i := m + 104707 * (c + 1) * (c + 1) + 31) (n := 63) (by omega)
    have hpw : CPowW (m + 104707 * (c + 1) * (c + 1) + 31) 3 := ⟨by decide, by omega⟩
    refine .inl ⟨_, rfl, _, _, rfl, rfl, hpw, .inl ⟨_, rfl, _, rfl, _, _, rfl, rfl, hpi0, ?_⟩⟩
    generalize hM : (m + 104707 * (c + 1) * (c + 1) + 31) ^ (3 : Int).toNat % pi = M1
    have hM0 : 0 ≤ M1 := by rw [← hM]; exact Int.emod_nonneg _ (by omega)
    have hM1 : M1 < 2 ^ 31 := by rw [← hM]; exact Int.lt_trans (Int.emod_lt_of_pos _ hpi0) hpi1
    -- mixed = int(mixed * (int(mixed) % 10009 + 101 * pot[2])) % 2305843009213693907
    refine ⟨_, rfl, _, rfl, .inl ⟨_, rfl, _, _, rfl, rfl, (by show (0 : Int) < 10009; decide), ?_⟩⟩
    refine ⟨_, rfl, p, _, _, _, rfl, rfl, SqL.of hp2, rfl, _, _, rfl, rfl, .inl ⟨by decide, by decide⟩, _, _, rfl, rfl, _, _, rfl, rfl, .inl ⟨by omega, by omega⟩, .inl ⟨_, rfl, _, _, rfl, rfl, (by show (0 : Int) < 2305843009213693907; decide), ?_⟩⟩
    -- return int(mixed // 109) % upto
    refine ⟨_, rfl, _, _, rfl, rfl, wide_div (b := 60) (by decide) (by decide) (by decide) (by decide), .inl ⟨_, rfl, _, rfl, _, _, rfl, rfl, hn, ?_⟩⟩
    refine k _ _ _ (Int.emod_nonneg _ (by omega)) (Int.emod_lt_of_pos _ hn) ⟨o, m, c + 1, rfl, h1, h2, h3, h4, by omega, by omega⟩ hp2 kp2
abbrev n_law_of : List Str := ["_law_pot_here", "_law_some"]
theorem sc_law_of : FnScope n_law_of ["_law_pot_here", "_law_some"] (defScope d_law_of) := ⟨rfl, rfl, rfl, by decide +kernel, rfl, by decide +kernel, by decide +kernel⟩
theorem ok_law_of (T : Top w K mg) : Has prg w K mg base CX0 2 (He.ga K "_law_of") ["_law_pot_here", "_law_some"] spOfL := by
  obtain ⟨fd, F⟩ := T.F_law_of
  obtain ⟨fd_law_take, G_law_take, b_law_take, k_law_take⟩ := ok_law_take (base := base) T
  refine ⟨fd, F.ok (k := 1) sc_law_of (fun _ _ _ _ h => sp2_len h) (fun cdv A outer s H vs Q E hr h => ?_), F.bindsN (fun _ _ _ _ _ _ us hl => match us, hl with | [_, _], _ => rfl), F.kp⟩
  obtain ⟨v0, v1, rfl, h⟩ := h
  refine ⟨_, PSs.nox (pss_one (ps_ret (pe_ix (IxR.or ix_list ix_tup) (pv 1) (pe_call G_law_take (hr.mono (by decide)) (by rfl) T.g_law_take k_law_take b_law_take .nil pass0 (pa_cons (pv 0) (pa_cons (pe_callB call_len (by rfl) T.b_len (by decide +kernel) (pa_cons (pv 1) pa_nil)) pa_nil))) (fun _ _ => rfl)))), ?_⟩
  rcases h with h | ⟨p, a, f, l, xs, rfl, rfl, hp, hl, ha, hx0, hx1, k⟩
  case inr =>
    have hap : a ≠ p := fun e => by rw [e, hp] at ha; cases ha
    refine ⟨_, rfl, _, rfl, _, rfl, _, xs.length, rfl, .inr ⟨_, SqT.of ha, rfl⟩, ?_⟩
    refine ⟨_, _, rfl, p, xs.length, f, l, rfl, hp, hl, by omega, by omega, fun r l' H' h0 h1 hl' hp' kp => ?_⟩
    obtain ⟨v, hv, hm⟩ := atI_mod (xs := xs) (i := r) rfl h0 h1
    exact .inr ⟨a, xs, r, v, rfl, rfl, SqT.of (kp a _ hap ha), hv, k v l' H' hm hl' hp' kp⟩
  obtain ⟨p, a, f, l, xs, e, hp, hl, ha, hap, hx0, hx1, k⟩ := h
  cases e
  refine ⟨_, rfl, _, rfl, _, rfl, _, xs.length, rfl, .inl ⟨_, SqL.of ha, rfl⟩, ?_⟩
  refine ⟨_, _, rfl, p, xs.length, f, l, rfl, hp, hl, by omega, by omega, fun r l' H' h0 h1 hl' hp' kp => ?_⟩
  obtain ⟨v, hv, hm⟩ := atI_mod (xs := xs) (i := r) rfl h0 h1
  exact .inl ⟨a, xs, r, v, rfl, rfl, SqL.of (kp a _ hap ha), hv, k v l' H' hm hl' hp' kp⟩
abbrev n_law_pot : List Str := ["_law_script", "_law_k", "_law_cell", "_law_own", "_law_small"]
theorem sc_law_pot : FnScope n_law_pot ["_law_script", "_law_k"] (defScope d_law_pot) := ⟨rfl, rfl, rfl, by decide +kernel, rfl, by decide +kernel, by decide +kernel⟩
theorem ok_law_pot (T : Top w K mg) : Has prg w K mg base CX0 1 (He.ga K "_law_pot") ["_law_script", "_law_k"] (spPotL K) := by
  obtain ⟨fd, F⟩ := T.F_law_pot
  refine ⟨fd, F.ok (k := 0) sc_law_pot (fun _ _ _ _ h => sp2_len h) (fun cdv A outer s H vs Q E hr h => ?_), F.bindsN (fun _ _ _ _ _ _ us hl => match us, hl with | [_, _], _ => rfl), F.kp⟩
  obtain ⟨v0, v1, rfl, h⟩ := h
  refine ⟨_, PSs.nox (pss_cons (ps_set (i := 2) sc_law_pot.nd rfl (Or.inl rfl) (pe_ifExp (pt_cmpR op_lt (pv 1) (pe_callB call_len (by rfl) T.b_len (by decide +kernel) (pa_cons (pv 0) pa_nil)) (nomark _)) (pe_ix ix_list (pv 0) (pv 1) (fun _ _ => rfl)) (pe_op op_add (pe_op op_mul pe_int (pv 1)) pe_int)))
    (pss_cons (ps_set (i := 3) sc_law_pot.nd rfl (Or.inl rfl) (pe_op op_mul (pe_op op_mod (pe_callTy call_int1 (by rfl) T.b_int boot_int (pa_cons (pe_callB call_abs (by rfl) T.b_abs (by decide +kernel) (pa_cons (pv 2) pa_nil)) pa_nil)) (pe_op op_powW (pe_op op_powW pe_int pe_int) pe_int)) (pe_callTy call_int1 (by rfl) T.b_int boot_int (pa_cons (pe_cmpR op_ge (pe_callB call_abs (by rfl) T.b_abs (by decide +kernel) (pa_cons (pv 2) pa_nil)) (pe_op op_powW pe_int pe_int) (nomark _)) pa_nil))))
    (pss_cons (ps_set (i := 4) sc_law_pot.nd rfl (Or.inl rfl) (pe_op op_mod (pe_callTy call_int1 (by rfl) T.b_int boot_int (pa_cons (pv 2) pa_nil)) pe_int))
    (pss_one (ps_ret (pe_lst (pa_cons (pv 3) (pa_cons (pe_op op_mod (pe_callTy call_int1 (by rfl) T.b_int boot_int (pa_cons (pe_op op_add (pe_op op_add (pe_op op_mul (pv 4) pe_int) (pe_op op_mul (pe_op op_mul pe_int (pv 1)) (pv 1))) pe_int) pa_nil)) pe_int) (pa_cons pe_int pa_nil))))))))), ?_⟩
  obtain ⟨a, ns, k, e, hS, hk0, hk1, hl, q⟩ := h
  cases e
  -- cell
  refine ⟨_, rfl, _, rfl, _, ns.length, rfl, .inl ⟨_, hS, by rw [List.length_map]⟩, _, _, rfl, rfl, _, rfl, ?_⟩
  refine ite2 (fun h0 => ?wa) (fun h0 => ?wb)
  case' wa =>
    have h0' : k < ns.length := of_decide_eq_true h0
    obtain ⟨z, hz⟩ : ∃ z : Int, (ns.map V.int)[k.toNat]? = some (V.int z) := ⟨ns[k.toNat]'(by omega), by rw [List.getElem?_map, List.getElem?_eq_getElem (by omega)]; rfl⟩
    refine ⟨_, rfl, _, rfl, a, _, _, V.int z, rfl, rfl, hS, at_of (j := k.toNat) (by omega) hz, ?_⟩
  case' wb =>
    refine ⟨_, rfl, _, _, rfl, rfl, .inl ⟨by decide, by decide⟩, _, _, rfl, rfl, ?_⟩
  all_goals
    -- own
    refine ⟨_, rfl, _, rfl, .inl ⟨_, rfl, ?_⟩⟩
    refine ⟨_, _, rfl, rfl, pw_10_60, _, _, rfl, rfl, pw_60_5, _, _, rfl, rfl, pw_pos, ?_⟩
    refine ⟨_, rfl, _, rfl, _, _, rfl, rfl, pw_10_18, _, _, rfl, rfl, .inr ⟨_, rfl, ?_⟩⟩
    refine ⟨_, _, rfl, rfl, .inr (b01 _), ?_⟩
    -- small
    refine ⟨_, rfl, .inl ⟨_, rfl, _, _, rfl, rfl, (by show (0 : Int) < 2305843009213693951; decide), ?_⟩⟩
    refine ⟨_, rfl, _, rfl, _, _, rfl, rfl, .inl (mod_small _), _, rfl, _, _, rfl, rfl, .inl ⟨by decide, by decide⟩, _, rfl, _, _, rfl, rfl, .inr ⟨by omega, by omega⟩, _, _, rfl, rfl, _, _, rfl, rfl, .inl ⟨_, rfl, _, _, rfl, rfl, (by show (0 : Int) < 2305843009213693921; decide), ?_⟩⟩
    refine ⟨(by show 3 ≤ sizeLine; decide), fun p hp => ?_⟩
    exact q p _ _ hp ⟨_, _, _, rfl, (own_ok _).1, (own_ok _).2, (mix_ok _).1, (mix_ok _).2, by decide, by decide⟩ upd_same (same_new hp)
end
end SK
set_option maxHeartbeats 4000000
namespace SL
open PySem PySem.Spec PyProof.Rows L2
def Pt (p : Addr) (f : Nat) (H : Hp) : Prop := ∃ l, H p = some (.lst l) ∧ PotL f l
theorem Pt.mono {p : Addr} {f g : Nat} {H : Hp} (h : Pt p f H) (e : g ≤ f) : Pt p g H := by
  obtain ⟨l, h1, h2⟩ := h
  exact ⟨l, h1, h2.mono e⟩
theorem Pt.same {p : Addr} {f : Nat} {H H' : Hp} (h : Pt p f H) (s : Same H H') : Pt p f H' := by
  obtain ⟨l, h1, h2⟩ := h
  exact ⟨l, s _ _ h1, h2⟩
theorem Pt.ne {p a : Addr} {f : Nat} {H : Hp} (h : Pt p f H) (ha : H a = none) : a ≠ p := by
  obtain ⟨l, h1, _⟩ := h
  exact (ne_of_none h1 ha).symm
theorem Pt.upd {p a : Addr} {f : Nat} {H : Hp} {o : HO} (h : Pt p f H) (ha : a ≠ p) : Pt p f (L2.upd H a o) := by
  obtain ⟨l, h1, h2⟩ := h
  exact ⟨l, by rw [upd_ne ha.symm]; exact h1, h2⟩
theorem Pt.tk {p : Addr} {f : Nat} {H H' : Hp} (h : Pt p f H) (k : Kp p H H') : Tk H H' := by
  obtain ⟨l, h1, _⟩ := h
  exact k.tk h1
theorem take_q {p : Addr} {n : Int} {f : Nat} {H : Hp} {Q : VK} {E : XK} (hp : Pt p (f + 1) H) (hn : 0 < n) (hn2 : n ≤ 10 ^ 18) (k : ∀ (r : Int) (H' : Hp), 0 ≤ r → r < n → Pt p f H' → Kp p H H' → Q (.int r) H') : spTakeL [.ref p, .int n] H Q E := by
  obtain ⟨l, h1, h2⟩ := hp
  exact ⟨_, _, rfl, p, n, f, l, rfl, h1, h2, hn, hn2, fun r l' H' r0 r1 hl hp' kp => k r H' r0 r1 ⟨l', hp', hl⟩ kp⟩
theorem of_q {p a : Addr} {f : Nat} {H : Hp} {Q : VK} {E : XK} {xs : List V} (hp : Pt p (f + 1) H) (ha : H a = some (.lst xs)) (hap : a ≠ p) (h0 : 0 < xs.length) (h1 : xs.length ≤ 1000000) (k : ∀ (x : V) (H' : Hp), x ∈ xs → Pt p f H' → Kp p H H' → Q x H') : spOfL [.ref p, .ref a] H Q E := by
  obtain ⟨l, g1, g2⟩ := hp
  exact ⟨_, _, rfl, .inl ⟨p, a, f, l, xs, rfl, g1, g2, ha, hap, h0, h1, fun x l' H' hx hl hp' kp => k x H' hx ⟨l', hp', hl⟩ kp⟩⟩
def allLet (z : Str) : Bool := z.cps.toList.all fun c => decide (c ∈ letL)
theorem allLet_app {z y : Str} (h : allLet z = true) (g : allLet y = true) : allLet (z ++ y) = true := by
  have e : (z ++ y).cps.toList = z.cps.toList ++ y.cps.toList := by
    show (z.cps ++ y.cps).toList = _
    rw [Array.toList_append]
  unfold allLet at *
  rw [e, List.all_append, h, g]
  rfl
theorem len_app (z y : Str) : (z ++ y).length = z.length + y.length := by
  show (z.cps ++ y.cps).size = _
  rw [Array.size_append]
  rfl
def cand : List Str := sgn "abcdefghijklmnopqrstuvwxyz" ++ (["aa", "bb", "cc", "dd", "ee"] : List Str)
theorem cand_ok : cand.length = 31 ∧ cand.Nodup ∧ ∀ z ∈ cand, isName z = true := by decide +kernel
theorem nd_len {α : Type} [DecidableEq α] : ∀ {l m : List α}, l.Nodup → (∀ a ∈ l, a ∈ m) → l.length ≤ m.length
  | [], _, _, _ => Nat.zero_le _
  | a :: l, m, h, s => by
    rw [List.nodup_cons] at h
    have hm := s a (by simp)
    have := nd_len (l := l) (m := m.erase a) h.2 fun b hb => (List.mem_erase_of_ne (fun e => h.1 (by rw [← e]; exact hb))).mpr (s b (by simp [hb]))
    rw [List.length_erase_of_mem hm] at this
    have : 0 < m.length := List.length_pos_of_mem hm
    rw [List.length_cons]
    omega
theorem cand_left {ts : List Str} (h : ts.length ≤ 30) : ∃ z r, cand.filter (fun z => decide (z ∉ ts)) = z :: r ∧ z ∉ ts ∧ isName z = true := by
  have hne : cand.filter (fun z => decide (z ∉ ts)) ≠ [] := fun e => by
    have hs : ∀ z ∈ cand, z ∈ ts := fun z hz => by
      by_cases hm : z ∈ ts
      · exact hm
      · have : z ∈ cand.filter (fun z => decide (z ∉ ts)) := List.mem_filter.mpr ⟨hz, decide_eq_true hm⟩
        rw [e] at this
        cases this
    have hle := nd_len cand_ok.2.1 hs
    rw [cand_ok.1] at hle
    omega
  obtain ⟨z, r, e⟩ := List.exists_cons_of_ne_nil hne
  have hz : z ∈ cand.filter (fun z => decide (z ∉ ts)) := by rw [e]; simp
  obtain ⟨h1, h2⟩ := List.mem_filter.mp hz
  exact ⟨z, r, e, of_decide_eq_true h2, cand_ok.2.2 z h1⟩
theorem isName_of {z : Str} (h1 : 1 ≤ z.length) (h2 : z.length ≤ 12) (h : allLet z = true) : isName z = true := by
  unfold isName
  rw [decide_eq_true h1, decide_eq_true h2]
  exact h
theorem sign_let {c : Nat} (h : c ∈ letL) : allLet ⟨#[c]⟩ = true := by
  unfold allLet
  simp [h]
def spNameL : Sp := sp2 fun a b H Q _ => ∃ (p t : Addr) (f : Nat) (ts : List Str), a = .ref p ∧ b = .ref t ∧ Pt p (f + 15) H ∧ H t = some (.lst (ts.map V.str)) ∧ t ≠ p ∧ ts.length ≤ 30 ∧ ∀ z H', isName z = true → z ∉ ts → Pt p f H' → Kp p H H' → Q (.str z) H'
theorem mem3 {a b c x : V} (h : x ∈ [a, b, c]) : x = a ∨ x = b ∨ x = c := by simpa using h
theorem notInV (z : Str) (ts : List Str) : (if true = true then !inV (.str z) (ts.map V.str) else inV (.str z) (ts.map V.str)) = decide (z ∉ ts) := by
  rw [if_pos rfl, inV_str, ← decide_not]
end SL
namespace SK
open PySem PySem.Spec PyProof.Rows L2 SL
section
variable {w : World} {K : PySem.W.Frag} {mg : Str → Option Value} {base : Heap}
abbrev n_law_name : List Str := ["_law_pot_here", "_law_taken", "_law_way", "_law_word", "_law_turn", "_law_one"]
theorem sc_law_name : FnScope n_law_name ["_law_pot_here", "_law_taken"] (defScope d_law_name) := ⟨rfl, rfl, rfl, by decide +kernel, rfl, by decide +kernel, by decide +kernel⟩
theorem ok_law_name (T : Top w K mg) : Has prg w K mg base CX0 3 (He.ga K "_law_name") ["_law_pot_here", "_law_taken"] spNameL := by
  obtain ⟨fd, F⟩ := T.F_law_name
  obtain ⟨fd_law_take, G_law_take, b_law_take, k_law_take⟩ := ok_law_take (base := base) T
  obtain ⟨fd_law_of, G_law_of, b_law_of, k_law_of⟩ := ok_law_of (base := base) T
  refine ⟨fd, F.ok (k := 2) sc_law_name (fun _ _ _ _ h => sp2_len h) (fun cdv A outer s H vs Q E hr h => ?_), F.bindsN (fun _ _ _ _ _ _ us hl => match us, hl with | [_, _], _ => rfl), F.kp⟩
  obtain ⟨v0, v1, rfl, h⟩ := h
  refine ⟨_, PSs.nox (pss_cons (ps_set (i := 2) sc_law_name.nd rfl (Or.inl rfl) (pe_call G_law_take (hr.mono (by decide)) (by rfl) T.g_law_take k_law_take b_law_take .nil pass0 (pa_cons (pv 0) (pa_cons pe_int pa_nil))))
    (pss_cons (ps_set (i := 3) sc_law_name.nd rfl (Or.inl rfl) (pe_call G_law_of (hr.mono (by decide)) (by rfl) T.g_law_of k_law_of b_law_of .nil pass0 (pa_cons (pv 0) (pa_cons (pe_lst (pa_cons pe_str (pa_cons pe_str (pa_cons pe_str (pa_cons pe_str (pa_cons pe_str (pa_cons pe_str (pa_cons pe_str (pa_cons pe_str (pa_cons pe_str (pa_cons pe_str pa_nil))))))))))) pa_nil))))
    (pss_cons (ps_if (pt_cmpR op_gt (pv 2) pe_int (nomark _)) (pss_cons (ps_set (i := 3) sc_law_name.nd rfl (Or.inl rfl) pe_str)
    (pss_one (ps_for PassesOwn.never rfl (pi_range1 (by rfl) T.b_range (pa_cons (pe_ix ix_list (pe_lst (pa_cons pe_int (pa_cons (pe_op op_add pe_int (pe_call G_law_take (hr.mono (by decide)) (by rfl) T.g_law_take k_law_take b_law_take .nil pass0 (pa_cons (pv 0) (pa_cons pe_int pa_nil)))) (pa_cons pe_int pa_nil)))) (pe_op op_sub (pv 2) pe_int) (fun _ _ => rfl)) pa_nil)) (pg_name (i := 4) sc_law_name.nd rfl (Or.inl rfl)) (pss_one (ps_set (i := 3) sc_law_name.nd rfl (Or.inl rfl) (pe_op op_add_str (pv 3) (pe_ix ix_str pe_str (pe_call G_law_take (hr.mono (by decide)) (by rfl) T.g_law_take k_law_take b_law_take .nil pass0 (pa_cons (pv 0) (pa_cons pe_int pa_nil))) (fun _ _ => rfl)))))))) pss_nil)
    (pss_cons (ps_if (pt_cmpR op_notIn_seq (pv 3) (pv 1) (by rfl)) (pss_one (ps_ret (pv 3))) pss_nil)
    (pss_one (ps_ret (pe_ix ix_list (pe_lc (own := [("_law_one", 5)]) (g := gName 5) (by rfl) sc_law_name.nd (pi_list (pe_op op_cat (pe_callTy (call_listS (by rfl)) (by rfl) T.b_list boot_list (pa_cons pe_str pa_nil)) (pe_lst (pa_cons pe_str (pa_cons pe_str (pa_cons pe_str (pa_cons pe_str (pa_cons pe_str pa_nil)))))))) (blkOk_by (N := n_law_name) (sc := defScope d_law_name) (own := [("_law_one", 5)]) (by decide +kernel)) (fun _ _ _ _ _ => (pg_name (i := 5) sc_law_name.nd rfl (Or.inl rfl) (.inr rfl))) (fun _ _ _ _ _ => (pts_one (pt_cmpR (op_notIn_seqK (K := K) rfl) (pv 5) (pv 1) (by rfl)))) (fun _ _ _ _ _ => (pv 5))) pe_int (fun _ _ => rfl)))))))), ?_⟩
  obtain ⟨p, t, f, ts, rfl, rfl, hp, ht, htp, hts, k⟩ := h
  -- way
  refine ⟨_, rfl, take_q hp (by decide) (by decide) fun r H1 r0 r1 hp1 k1 => ?_⟩
  have ht1 := k1 _ _ htp ht
  -- word
  refine ⟨_, rfl, (by show 10 ≤ sizeLine; decide), fun q hq => ?_⟩
  have s2 := same_new (o := .lst [V.str "class", V.str "zooms", V.str "far", V.str "label", V.str "put", V.str "go", V.str "a", V.str "b", V.str "x", V.str "town"]) hq
  refine of_q (hp1.same s2) upd_same (hp1.ne hq) (by decide) (by decide) fun x H2 hx hp2 k2 => ?_
  have kp2 : Kp p H H2 := (k1.trans (Kp.of s2)).trans k2
  obtain ⟨wd, rfl, hwd⟩ : ∃ wd : Str, x = .str wd ∧ isName wd = true := by
    simp only [List.mem_cons, List.not_mem_nil, or_false] at hx
    rcases hx with rfl | rfl | rfl | rfl | rfl | rfl | rfl | rfl | rfl | rfl <;> exact ⟨_, rfl, by decide +kernel⟩
  -- a word by letters
  refine ⟨_, rfl, _, _, rfl, rfl, _, rfl, ?_⟩
  refine ite2 (fun h0 => ?wa) (fun h0 => ?wb)
  case' wa =>
    have h0' : 0 < r := of_decide_eq_true h0
    refine ⟨_, rfl, take_q hp2 (by decide) (by decide) fun j H3 j0 j1 hp3 k3 => ?_⟩
    refine ⟨_, _, rfl, rfl, (by show 3 ≤ sizeLine; decide), fun q3 hq3 => ?_⟩
    have s4 := same_new (o := .lst [V.int 1, V.int (1 + j), V.int 12]) hq3
    obtain ⟨v, hv, hm⟩ := atI_mod (xs := [V.int 1, V.int (1 + j), V.int 12]) (i := r - 1) (n := 3) rfl (by omega) (by omega)
    obtain ⟨n, rfl, hn1, hn2⟩ : ∃ n : Nat, v = .int n ∧ 1 ≤ n ∧ n ≤ 12 := by
      rcases mem3 hm with rfl | rfl | rfl
      · exact ⟨1, rfl, by omega, by omega⟩
      · exact ⟨(1 + j).toNat, congrArg V.int (by omega), by omega, by omega⟩
      · exact ⟨12, rfl, by omega, by omega⟩
    refine ⟨_, rfl, _, _, rfl, rfl, q3, _, _, _, rfl, rfl, SqL.of upd_same, hv, (n : Int), rfl, by omega, by omega, ?_⟩
    refine for_it (walk_range (lo := 0) (n := n)) (fun i σ H4 => ∃ (wd : Str) (o4 : Option V), σ = [some (.ref p), some (.ref t), some (.int r), some (.str wd), o4, none] ∧ Kp p H H4 ∧ Pt p (f + (12 - i)) H4 ∧ allLet wd = true ∧ wd.length = i)
      ⟨"", none, rfl, (kp2.trans k3).trans (Kp.of s4), (hp3.same s4).mono (by omega), by decide +kernel, by decide +kernel⟩ (fun _ _ _ _ _ => trivial) ?_ ?_
    · rintro i x σ H4 H5 hi ⟨wd, o4, rfl, kp4, hp4, hw4, hl4⟩ ⟨rfl, rfl⟩
      refine ⟨_, rfl, _, rfl, take_q (f := f + (12 - (i + 1))) (hp4.mono (by omega)) (by decide) (by decide) fun c H5 c0 c1 hp5 k5 => ?_⟩
      obtain ⟨cc, hcc, hmem⟩ : ∃ cc, atI letL c = some cc ∧ cc ∈ letL := by
        have hl : letL.length = 26 := by decide +kernel
        obtain ⟨j, rfl⟩ : ∃ j : Nat, c = (j : Int) := ⟨c.toNat, by omega⟩
        have hlt : j < letL.length := by omega
        exact ⟨letL[j], atI_nat (List.getElem?_eq_getElem hlt), List.getElem_mem hlt⟩
      refine ⟨_, c, cc, rfl, rfl, by decide +kernel, hcc, _, _, rfl, rfl, ?_, ?_⟩
      · have : (⟨#[cc]⟩ : Str).length = 1 := rfl
        rw [this, hl4, sizeLine_eq]
        omega
      · exact ⟨_, _, rfl, kp4.trans k5, hp5, allLet_app hw4 (sign_let hmem), by rw [len_app, hl4]; rfl⟩
    rintro σ H2 ⟨wd, o4, rfl, kp2, hp2, hw4, hl4⟩
    have hwd : isName wd = true := isName_of (by omega) (by omega) hw4
  all_goals
    have ht2 := kp2 _ _ htp ht
    refine ⟨_, rfl, _, rfl, t, _, rfl, .inl (SqL.of ht2), rfl, flat_strs _, _, rfl, ?_⟩
    rw [notInV]
    by_cases hm : wd ∈ ts
    · rw [decide_eq_false (fun z => z hm)]
      refine ⟨_, rfl, by decide +kernel, fun q4 hq4 => ⟨(by show 5 ≤ sizeLine; decide), fun q5 hq5 => ?_⟩⟩
      have n45 : q4 ≠ q5 := ne_of_none upd_same hq5
      refine ⟨q4, q5, _, _, rfl, rfl, (by rw [upd_ne n45]; exact upd_same), upd_same, by decide +kernel, fun q6 hq6 => ?_⟩
      have hcd : (sgn "abcdefghijklmnopqrstuvwxyz").map V.str ++ [V.str "aa", V.str "bb", V.str "cc", V.str "dd", V.str "ee"] = cand.map V.str := by
        unfold cand
        rw [List.map_append]
        rfl
      rw [hcd]
      have s6 := ((same_new (o := .lst ((sgn "abcdefghijklmnopqrstuvwxyz").map V.str)) hq4).trans (same_new (o := .lst [V.str "aa", V.str "bb", V.str "cc", V.str "dd", V.str "ee"]) hq5)).trans (same_new (o := .lst (cand.map V.str)) hq6)
      have h6 : upd (upd (upd H2 q4 (.lst ((sgn "abcdefghijklmnopqrstuvwxyz").map V.str))) q5 (.lst [V.str "aa", V.str "bb", V.str "cc", V.str "dd", V.str "ee"])) q6 (.lst (cand.map V.str)) q6 = some (.lst (cand.map V.str)) := upd_same
      have ht6 := s6 _ _ ht2
      have kp6 := kp2.trans (Kp.of (p := p) s6)
      have hp6 := hp2.same s6
      generalize upd (upd (upd H2 q4 (.lst ((sgn "abcdefghijklmnopqrstuvwxyz").map V.str))) q5 (.lst [V.str "aa", V.str "bb", V.str "cc", V.str "dd", V.str "ee"])) q6 (.lst (cand.map V.str)) = H6 at h6 ht6 kp6 hp6 ⊢
      refine ⟨q6, rfl, ⟨_, SqL.of h6⟩, fun D hD => ?_⟩
      refine lc_fm (walk_list (xs := cand.map V.str)) (fun i => (cand[i]?).bind fun z => if decide (z ∉ ts) = true then some (V.str z) else none) hD (by decide +kernel) (fun H7 s7 => SqL.of (s7 _ _ h6)) ?_ ?_
      · rintro i v H7 H8 Ky Kn hi s7 ⟨rfl, hv⟩ ky kn
        rw [List.getElem?_map] at hv
        obtain ⟨z, hz, rfl⟩ := Option.map_eq_some_iff.mp hv
        refine ⟨rfl, _, rfl, _, rfl, t, _, rfl, .inl (SqL.of (s7 _ _ ht6)), rfl, flat_strs _, _, rfl, ?_⟩
        rw [notInV]
        by_cases hm : z ∈ ts
        · rw [decide_eq_false (fun y => y hm)]
          refine kn _ ?_ (Same.refl _)
          rw [hz]
          exact if_neg (by simpa using hm)
        · rw [decide_eq_true hm]
          refine ⟨_, rfl, ky _ _ ?_ (Same.refl _)⟩
          rw [hz]
          exact if_pos (decide_eq_true hm)
      · intro H7 s7 hD7
        rw [List.length_map, fm_get, fm_filter] at hD7
        obtain ⟨z, r', e, hz1, hz2⟩ := cand_left hts
        rw [e] at hD7
        exact ⟨D, _, _, _, rfl, rfl, SqL.of hD7, atI_nat (j := 0) rfl, k z H7 hz2 hz1 ((hp6.same s7).mono (by omega)) (kp6.trans (Kp.of s7))⟩
    · rw [decide_eq_true hm]
      exact ⟨_, rfl, k wd H2 hwd hm (hp2.mono (by omega)) kp2⟩
end
end SK
set_option maxHeartbeats 4000000
namespace SL
open PySem PySem.Spec PyProof.Rows L2
theorem adj_snoc {n m : Int} : ∀ {ns : List Int}, adj (ns ++ [n]) = true → m ≤ 2 * n → adj (ns ++ [n, m]) = true
  | [], _, h => by
    show (decide (m ≤ 2 * n) && adj [m]) = true
    rw [decide_eq_true h]
    rfl
  | [a], h, g => by
    have h : (decide (n ≤ 2 * a) && adj [n]) = true := h
    show (decide (n ≤ 2 * a) && (decide (m ≤ 2 * n) && adj [m])) = true
    rw [decide_eq_true g]
    simp only [Bool.and_eq_true] at h
    rw [h.1]
    rfl
  | a :: b :: r, h, g => by
    have h : (decide (b ≤ 2 * a) && adj (b :: r ++ [n])) = true := h
    show (decide (b ≤ 2 * a) && adj (b :: r ++ [n, m])) = true
    simp only [Bool.and_eq_true] at h
    rw [h.1, adj_snoc (ns := b :: r) h.2 g]
    rfl
theorem sizesOk_snoc {ns : List Int} {n m : Int} (h : sizesOk (ns ++ [n]) = true) (h1 : 2 ≤ m) (h2 : m ≤ 9) (h3 : m ≤ 2 * n) : sizesOk (ns ++ [n, m]) = true := by
  unfold sizesOk at *
  simp only [Bool.and_eq_true] at h
  obtain ⟨_, ha, hb⟩ := h
  rw [adj_snoc hb h3]
  have e : ns ++ [n, m] = (ns ++ [n]) ++ [m] := by simp
  rw [e, List.all_append, ha]
  simp [h1, h2]
theorem sizesOk_one {n : Int} (h1 : 2 ≤ n) (h2 : n ≤ 9) : sizesOk [n] = true := by
  unfold sizesOk
  simp [h1, h2, adj]
theorem sizesOk_last {ns : List Int} {n : Int} (h : sizesOk (ns ++ [n]) = true) : 2 ≤ n ∧ n ≤ 9 := by
  unfold sizesOk at h
  simp only [Bool.and_eq_true, List.all_append] at h
  have := h.2.1.2
  simpa using this
def spSizesL : Sp := sp2 fun a b H Q _ => ∃ (p : Addr) (m f : Nat), a = .ref p ∧ b = .int m ∧ 1 ≤ m ∧ m ≤ 5 ∧ Pt p (f + 9) H ∧
  ∀ (t : Addr) (ns : List Int) (H' : Hp), ns.length = m → sizesOk ns = true → Pt p f H' → Kp p H H' → H' t = some (.tup (ns.map V.int)) → Q (.ref t) H'
def clD (r : Row) : PyData := .tuple [.str r.name, .int r.first, .int r.least, .int r.most, .tuple (r.sizes.map .int)]
theorem clD_fz (l : List Row) : fzAll (l.map clD) = true := fzAll_iff.mpr fun d hd => by
  obtain ⟨r, _, rfl⟩ := List.mem_map.mp hd
  simp only [clD, fz, fzAll, Bool.true_and, Bool.and_true]
  exact fzAll_iff.mpr fun d hd => by
    obtain ⟨n, _, rfl⟩ := List.mem_map.mp hd
    rfl
def ClsAt (H : Hp) (L : Addr) (rows : List Row) : Prop := ∃ vs, H L = some (.lst vs) ∧ RvL H vs (rows.map clD)
theorem ClsAt.kp {p L : Addr} {f : Nat} {H H' : Hp} {rows : List Row} (h : ClsAt H L rows) (hp : Pt p f H) (hL : L ≠ p) (k : Kp p H H') : ClsAt H' L rows := by
  obtain ⟨vs, h1, h2⟩ := h
  exact ⟨vs, k _ _ hL h1, h2.tk (hp.tk k) (clD_fz _)⟩
theorem ClsAt.same {L : Addr} {H H' : Hp} {rows : List Row} (h : ClsAt H L rows) (k : Same H H') : ClsAt H' L rows := by
  obtain ⟨vs, h1, h2⟩ := h
  exact ⟨vs, k _ _ h1, h2.same k⟩
structure RowsOk (z : Int) (rows : List Row) : Prop where
  ok : ∀ r ∈ rows, rowOk r (z - 1) = true
  nd : (rows.map SL.Row.name).Nodup
def spClassesL : Sp := sp3 fun a b c H Q _ => ∃ (p : Addr) (z : Int) (m f : Nat), a = .ref p ∧ b = .int z ∧ c = .int m ∧ 1 ≤ z ∧ z ≤ 5 ∧ 1 ≤ m ∧ m ≤ 4 ∧ Pt p (f + 140) H ∧
  ∀ (L : Addr) (rows : List Row) (H' : Hp), 1 ≤ rows.length → rows.length ≤ m → RowsOk z rows → H L = none → L ≠ p → ClsAt H' L rows → Pt p f H' → Kp p H H' → Q (.ref L) H'
theorem Kp.put {p N : Addr} {H H5 : Hp} {o : HO} (k : Kp p H H5) (hN : H N = none) : Kp p H (L2.upd H5 N o) := fun b u hb he => by
  rw [upd_ne (ne_of_none he hN)]
  exact k _ _ hb he
structure CS (p L N : Addr) (g : Nat) (H H4 : Hp) (rows : List Row) (ns : List Str) : Prop where
  kp : Kp p H H4
  pt : Pt p g H4
  cl : ClsAt H4 L rows
  nm : H4 N = some (.lst (ns.map V.str))
section
variable {p L N : Addr} {g g' : Nat} {H H4 H5 : Hp} {rows : List Row} {ns : List Str}
theorem CS.draw (c : CS p L N g H H4 rows ns) (nL : L ≠ p) (nN : N ≠ p) (k : Kp p H4 H5) (pt : Pt p g' H5) : CS p L N g' H H5 rows ns := ⟨c.kp.trans k, pt, c.cl.kp c.pt nL k, k _ _ nN c.nm⟩
theorem CS.same (c : CS p L N g H H4 rows ns) (s : Same H4 H5) : CS p L N g H H5 rows ns := ⟨c.kp.trans (Kp.of s), c.pt.same s, c.cl.same s, s _ _ c.nm⟩
theorem CS.name (c : CS p L N g H H4 rows ns) (nN : N ≠ p) (nLN : L ≠ N) (hN : H N = none) (z : Str) : CS p L N g H (upd H4 N (.lst (ns.map V.str ++ [.str z]))) rows (ns ++ [z]) := by
  refine ⟨c.kp.put hN, c.pt.upd nN, ?_, by rw [upd_same, List.map_append]; rfl⟩
  obtain ⟨vs, h1, h2⟩ := c.cl
  exact ⟨vs, by rw [upd_ne nLN]; exact h1, h2.tk (Tk.updL c.nm) (clD_fz _)⟩
theorem CS.row (c : CS p L N g H H4 rows ns) (nL : L ≠ p) (nLN : L ≠ N) (hL : H L = none) {r : Row} {vs : List V} {v : V} (hv : H4 L = some (.lst vs)) (rv : Rv H4 v (clD r)) : CS p L N g H (upd H4 L (.lst (vs ++ [v]))) (rows ++ [r]) ns := by
  refine ⟨c.kp.put hL, c.pt.upd nL, ?_, by rw [upd_ne nLN.symm]; exact c.nm⟩
  obtain ⟨ws, h1, h2⟩ := c.cl
  rw [hv] at h1
  cases h1
  refine ⟨_, upd_same, ?_⟩
  rw [List.map_append]
  have f1 : fz (clD r) = true := by
    have := clD_fz [r]
    simpa [fzAll] using this
  exact (h2.tk (Tk.updL hv) (clD_fz _)).snoc (rv.tk (Tk.updL hv) f1)
end
theorem RowsOk.snoc {z : Int} {rows : List Row} {r : Row} (h : RowsOk z rows) (hr : rowOk r (z - 1) = true) (hn : r.name ∉ rows.map SL.Row.name) : RowsOk z (rows ++ [r]) := by
  refine ⟨fun q hq => ?_, ?_⟩
  · rcases List.mem_append.mp hq with hq | hq
    · exact h.ok q hq
    · rw [List.mem_singleton.mp hq]
      exact hr
  · rw [List.map_append, List.nodup_append]
    refine ⟨h.nd, by simp, fun a ha b hb => ?_⟩
    rw [List.map_singleton] at hb
    rw [List.mem_singleton.mp hb]
    exact fun e => hn (by rw [← e]; exact ha)
end SL
namespace SK
open PySem PySem.Spec PyProof.Rows L2 SL
section
variable {w : World} {K : PySem.W.Frag} {mg : Str → Option Value} {base : Heap}
abbrev n_law_sizes : List Str := ["_law_pot_here", "_law_many", "_law_found", "_law_turn", "_law_top"]
theorem sc_law_sizes : FnScope n_law_sizes ["_law_pot_here", "_law_many"] (defScope d_law_sizes) := ⟨rfl, rfl, rfl, by decide +kernel, rfl, by decide +kernel, by decide +kernel⟩
theorem ok_law_sizes (T : Top w K mg) : Has prg w K mg base CX0 3 (He.ga K "_law_sizes") ["_law_pot_here", "_law_many"] spSizesL := by
  obtain ⟨fd, F⟩ := T.F_law_sizes
  obtain ⟨fd_law_take, G_law_take, b_law_take, k_law_take⟩ := ok_law_take (base := base) T
  obtain ⟨fd_law_of, G_law_of, b_law_of, k_law_of⟩ := ok_law_of (base := base) T
  refine ⟨fd, F.ok (k := 2) sc_law_sizes (fun _ _ _ _ h => sp2_len h) (fun cdv A outer s H vs Q E hr h => ?_), F.bindsN (fun _ _ _ _ _ _ us hl => match us, hl with | [_, _], _ => rfl), F.kp⟩
  obtain ⟨v0, v1, rfl, h⟩ := h
  refine ⟨_, PSs.nox (pss_cons (ps_set (i := 2) sc_law_sizes.nd rfl (Or.inl rfl) (pe_lst (pa_cons (pe_op op_add pe_int (pe_call G_law_take (hr.mono (by decide)) (by rfl) T.g_law_take k_law_take b_law_take .nil pass0 (pa_cons (pv 0) (pa_cons pe_int pa_nil)))) pa_nil)))
    (pss_cons (ps_for PassesOwn.never rfl (pi_range1 (by rfl) T.b_range (pa_cons (pe_op op_sub (pv 1) pe_int) pa_nil)) (pg_name (i := 3) sc_law_sizes.nd rfl (Or.inl rfl)) (pss_cons (ps_set (i := 4) sc_law_sizes.nd rfl (Or.inl rfl) (pe_callB (call_min2 (by rfl)) (by rfl) T.b_min (by decide +kernel) (pa_cons pe_int (pa_cons (pe_callTy call_int1 (by rfl) T.b_int boot_int (pa_cons (pe_op op_mul pe_int (pe_ix ix_list (pv 2) (pe_un un_neg pe_int) (fun _ _ => rfl))) pa_nil)) pa_nil))))
    (pss_one (ps_expr (pe_bm PySem.F.plainAttrs_list PySem.F.slot_list_append PySem.F.type_list_append mt_append (pv 2) (pa_cons (pe_call G_law_of (hr.mono (by decide)) (by rfl) T.g_law_of k_law_of b_law_of .nil pass0 (pa_cons (pv 0) (pa_cons (pe_lst (pa_cons (pv 4) (pa_cons (pe_ix ix_list (pv 2) (pe_un un_neg pe_int) (fun _ _ => rfl)) (pa_cons (pe_op op_add pe_int (pe_call G_law_take (hr.mono (by decide)) (by rfl) T.g_law_take k_law_take b_law_take .nil pass0 (pa_cons (pv 0) (pa_cons (pe_op op_sub (pv 4) pe_int) pa_nil)))) pa_nil)))) pa_nil))) pa_nil))))))
    (pss_one (ps_ret (pe_callTy call_tuple_of (by rfl) T.b_tuple boot_tuple (pa_cons (pv 2) pa_nil)))))), ?_⟩
  obtain ⟨p, m, f, rfl, rfl, hm1, hm2, hp, k⟩ := h
  refine ⟨_, rfl, take_q hp (by decide) (by decide) fun r H1 r0 r1 hp1 k1 => ?_⟩
  refine ⟨_, _, rfl, rfl, (by show 1 ≤ sizeLine; decide), fun L hL => ?_⟩
  have s2 := same_new (o := .lst [V.int (2 + r)]) hL
  have nL := hp1.ne hL
  refine ⟨_, rfl, _, _, rfl, rfl, _, rfl, by omega, by omega, ?_⟩
  refine for_it (walk_range (lo := 0) (n := ((m : Int) - 1).toNat)) (fun i σ H4 => ∃ (ns : List Int) (n : Int) (o3 o4 : Option V), σ = [some (.ref p), some (.int m), some (.ref L), o3, o4] ∧ Kp p H H4 ∧ Pt p (f + 2 * (4 - i)) H4 ∧ H4 L = some (.lst ((ns ++ [n]).map V.int)) ∧ ns.length = i ∧ sizesOk (ns ++ [n]) = true)
    ⟨[], 2 + r, none, none, rfl, k1.trans (Kp.of s2), (hp1.same s2).mono (by omega), upd_same, rfl, sizesOk_one (by omega) (by omega)⟩ (fun _ _ _ _ _ => trivial) ?_ ?_
  · rintro i x σ H4 H5 hi ⟨ns, n, o3, o4, rfl, kp4, hp4, hL4, hl4, hs4⟩ ⟨rfl, rfl⟩
    obtain ⟨hn1, hn2⟩ := sizesOk_last hs4
    have hat : atI ((ns ++ [n]).map V.int) (-1) = some (V.int n) := by
      rw [List.map_append]
      exact atI_last _ _
    refine ⟨_, rfl, _, rfl, L, _, _, _, rfl, rfl, SqL.of hL4, hat, _, _, rfl, rfl, .inl ⟨by decide, by decide⟩, .inl ⟨_, rfl, _, _, rfl, ?_⟩⟩
    obtain ⟨tp, htp, ht1, ht2, ht3⟩ : ∃ tp, (if 2 * n < 9 then 2 * n else 9) = tp ∧ 4 ≤ tp ∧ tp ≤ 9 ∧ tp ≤ 2 * n := ⟨_, rfl, by split <;> omega, by split <;> omega, by split <;> omega⟩
    rw [htp]
    refine ⟨_, rfl, .inl ⟨rfl, _, SqL.of hL4⟩, _, rfl, _, rfl, _, rfl, _, rfl, L, _, _, _, rfl, rfl, SqL.of hL4, hat, ?_⟩
    refine ⟨_, rfl, _, rfl, _, _, rfl, rfl, take_q (f := f + 2 * (4 - (i + 1)) + 1) (hp4.mono (by omega)) (by omega) (by omega) fun j H6 j0 j1 hp6 k6 => ?_⟩
    refine ⟨_, _, rfl, rfl, (by show 3 ≤ sizeLine; decide), fun q hq => ?_⟩
    have s7 := same_new (o := .lst [V.int tp, V.int n, V.int (2 + j)]) hq
    refine of_q (hp6.same s7) upd_same (hp6.ne hq) (by show 0 < 3; decide) (by show 3 ≤ 1000000; decide) fun v H8 hv hp8 k8 => ?_
    obtain ⟨y, rfl, hy1, hy2, hy3⟩ : ∃ y, v = .int y ∧ 2 ≤ y ∧ y ≤ 9 ∧ y ≤ 2 * n := by
      rcases mem3 hv with rfl | rfl | rfl
      · exact ⟨_, rfl, by omega, by omega, by omega⟩
      · exact ⟨_, rfl, by omega, by omega, by omega⟩
      · exact ⟨_, rfl, by omega, by omega, by omega⟩
    have kp8 := ((kp4.trans k6).trans (Kp.of s7)).trans k8
    have hL8 : H8 L = some (.lst ((ns ++ [n]).map V.int)) := k8 _ _ nL (s7 _ _ (k6 _ _ nL hL4))
    refine ⟨L, _, _, rfl, rfl, hL8, ?_, ?_⟩
    · rw [List.length_map, List.length_append, hl4, sizeLine_eq]
      show i + 1 < _
      omega
    · have hLn : H L = none := by
        cases e : H L with
        | none => rfl
        | some o =>
          rw [k1 _ _ nL e] at hL
          cases hL
      refine ⟨ns ++ [n], y, _, _, rfl, fun b o hb he => ?_, hp8.upd nL, ?_, by rw [List.length_append, hl4]; rfl, ?_⟩
      · rw [upd_ne (ne_of_none he hLn)]
        exact kp8 _ _ hb he
      · rw [upd_same, List.map_append (l₁ := ns ++ [n])]
        rfl
      · rw [List.append_assoc]
        exact sizesOk_snoc hs4 hy1 hy2 hy3
  · rintro σ H4 ⟨ns, n, o3, o4, rfl, kp4, hp4, hL4, hl4, hs4⟩
    refine ⟨_, rfl, L, _, rfl, .inl ⟨SqL.of hL4, fun t ht => ?_⟩⟩
    have s5 := same_new (o := .tup ((ns ++ [n]).map V.int)) ht
    refine k t (ns ++ [n]) _ (by rw [List.length_append, hl4]; show _ + 1 = _; omega) hs4 ((hp4.same s5).mono (by omega)) (kp4.trans (Kp.of s5)) upd_same
abbrev n_law_classes : List Str := ["_law_pot_here", "_law_zooms", "_law_most", "_law_turn", "_law_found", "_law_names", "_law_first", "_law_many", "_law_least"]
theorem sc_law_classes : FnScope n_law_classes ["_law_pot_here", "_law_zooms", "_law_most"] (defScope d_law_classes) := ⟨rfl, rfl, rfl, by decide +kernel, rfl, by decide +kernel, by decide +kernel⟩
theorem ok_law_classes (T : Top w K mg) : Has prg w K mg base CX0 4 (He.ga K "_law_classes") ["_law_pot_here", "_law_zooms", "_law_most"] spClassesL := by
  obtain ⟨fd, F⟩ := T.F_law_classes
  obtain ⟨fd_law_take, G_law_take, b_law_take, k_law_take⟩ := ok_law_take (base := base) T
  obtain ⟨fd_law_name, G_law_name, b_law_name, k_law_name⟩ := ok_law_name (base := base) T
  obtain ⟨fd_law_of, G_law_of, b_law_of, k_law_of⟩ := ok_law_of (base := base) T
  obtain ⟨fd_law_sizes, G_law_sizes, b_law_sizes, k_law_sizes⟩ := ok_law_sizes (base := base) T
  refine ⟨fd, F.ok (k := 3) sc_law_classes (fun _ _ _ _ h => sp3_len h) (fun cdv A outer s H vs Q E hr h => ?_), F.bindsN (fun _ _ _ _ _ _ us hl => match us, hl with | [_, _, _], _ => rfl), F.kp⟩
  obtain ⟨v0, v1, v2, rfl, h⟩ := h
  refine ⟨_, PSs.nox (pss_cons (ps_par (i := 4) (j := 5) (by rfl) sc_law_classes.nd rfl rfl (by decide) rfl rfl (pa_cons (pe_lst pa_nil) (pa_cons (pe_lst pa_nil) pa_nil)) (by rfl))
    (pss_cons (ps_for PassesOwn.never rfl (pi_range1 (by rfl) T.b_range (pa_cons (pe_op op_add pe_int (pe_call G_law_take (hr.mono (by decide)) (by rfl) T.g_law_take k_law_take b_law_take .nil pass0 (pa_cons (pv 0) (pa_cons (pv 2) pa_nil)))) pa_nil)) (pg_name (i := 3) sc_law_classes.nd rfl (Or.inl rfl)) (pss_cons (ps_expr (pe_bm PySem.F.plainAttrs_list PySem.F.slot_list_append PySem.F.type_list_append mt_append (pv 5) (pa_cons (pe_call G_law_name (hr.mono (by decide)) (by rfl) T.g_law_name k_law_name b_law_name .nil pass0 (pa_cons (pv 0) (pa_cons (pv 5) pa_nil))) pa_nil)))
    (pss_cons (ps_set (i := 6) sc_law_classes.nd rfl (Or.inl rfl) (pe_call G_law_of (hr.mono (by decide)) (by rfl) T.g_law_of k_law_of b_law_of .nil pass0 (pa_cons (pv 0) (pa_cons (pe_lst (pa_cons pe_int (pa_cons pe_int (pa_cons (pe_call G_law_take (hr.mono (by decide)) (by rfl) T.g_law_take k_law_take b_law_take .nil pass0 (pa_cons (pv 0) (pa_cons (pv 1) pa_nil))) pa_nil)))) pa_nil))))
    (pss_cons (ps_set (i := 7) sc_law_classes.nd rfl (Or.inl rfl) (pe_call G_law_of (hr.mono (by decide)) (by rfl) T.g_law_of k_law_of b_law_of .nil pass0 (pa_cons (pv 0) (pa_cons (pe_lst (pa_cons (pe_op op_sub (pv 1) (pv 6)) (pa_cons (pe_op op_sub (pv 1) (pv 6)) (pa_cons (pe_op op_add pe_int (pe_call G_law_take (hr.mono (by decide)) (by rfl) T.g_law_take k_law_take b_law_take .nil pass0 (pa_cons (pv 0) (pa_cons (pe_op op_sub (pv 1) (pv 6)) pa_nil)))) pa_nil)))) pa_nil))))
    (pss_cons (ps_set (i := 8) sc_law_classes.nd rfl (Or.inl rfl) (pe_call G_law_of (hr.mono (by decide)) (by rfl) T.g_law_of k_law_of b_law_of .nil pass0 (pa_cons (pv 0) (pa_cons (pe_lst (pa_cons pe_int (pa_cons pe_int (pa_cons pe_int (pa_cons (pe_op op_add pe_int (pe_call G_law_take (hr.mono (by decide)) (by rfl) T.g_law_take k_law_take b_law_take .nil pass0 (pa_cons (pv 0) (pa_cons pe_int pa_nil)))) pa_nil))))) pa_nil))))
    (pss_one (ps_expr (pe_bm PySem.F.plainAttrs_list PySem.F.slot_list_append PySem.F.type_list_append mt_append (pv 4) (pa_cons (pe_tup (pa_cons (pe_ix ix_list (pv 5) (pe_un un_neg pe_int) (fun _ _ => rfl)) (pa_cons (pv 6) (pa_cons (pv 8) (pa_cons (pe_op op_add (pv 8) (pe_call G_law_take (hr.mono (by decide)) (by rfl) T.g_law_take k_law_take b_law_take .nil pass0 (pa_cons (pv 0) (pa_cons pe_int pa_nil)))) (pa_cons (pe_call G_law_sizes (hr.mono (by decide)) (by rfl) T.g_law_sizes k_law_sizes b_law_sizes .nil pass0 (pa_cons (pv 0) (pa_cons (pv 7) pa_nil))) pa_nil)))))) pa_nil)))))))))
    (pss_one (ps_ret (pv 4))))), ?_⟩
  obtain ⟨p, z, m, f, rfl, rfl, rfl, hz1, hz2, hm1, hm2, hp, k⟩ := h
  refine ⟨(by show 0 ≤ sizeLine; decide), fun L hL => ⟨(by show 0 ≤ sizeLine; decide), fun N hN => ?_⟩⟩
  have s1 := same_new (o := .lst []) hL
  have s2 := same_new (o := .lst []) hN
  have hL2 := s2 _ _ (show upd H L (.lst []) L = some (.lst []) from upd_same)
  have nL : L ≠ p := hp.ne hL
  have hp1 := (hp.same s1)
  have nN : N ≠ p := hp1.ne hN
  have nLN : L ≠ N := ne_of_none (show upd H L (.lst []) L = some (.lst []) from upd_same) hN
  have hNn : H N = none := s1.free hN
  have c2 : CS p L N (f + 140) H (upd (upd H L (.lst [])) N (.lst [])) [] [] := ⟨(Kp.of s1).trans (Kp.of s2), hp1.same s2, ⟨[], hL2, .nil⟩, upd_same⟩
  generalize upd (upd H L (.lst [])) N (.lst []) = H2 at c2 ⊢
  refine ⟨_, _, rfl, _, rfl, _, rfl, take_q c2.pt (by omega) (by omega) fun j H3 j0 j1 hp3 k3 => ?_⟩
  have c3 := c2.draw nL nN k3 hp3
  obtain ⟨cn, rfl⟩ : ∃ cn : Nat, j = (cn : Int) := ⟨j.toNat, by omega⟩
  refine ⟨_, _, rfl, rfl, _, rfl, by omega, by omega, ?_⟩
  refine for_it (walk_range (lo := 0) (n := (1 + (cn : Int)).toNat)) (fun i σ H4 => ∃ (rows : List SL.Row) (o3 o6 o7 o8 : Option V), σ = [some (.ref p), some (.int z), some (.int m), o3, some (.ref L), some (.ref N), o6, o7, o8] ∧
      CS p L N (f + 34 * (4 - i)) H H4 rows (rows.map SL.Row.name) ∧ rows.length = i ∧ RowsOk z rows)
    ⟨[], _, _, _, _, rfl, ⟨c3.kp, c3.pt.mono (by omega), c3.cl, c3.nm⟩, rfl, ⟨fun _ h => absurd h List.not_mem_nil, List.nodup_nil⟩⟩ (fun _ _ _ _ _ => trivial) ?_ ?_
  · rintro i x σ H4 H5 hi ⟨rows, o3, o6, o7, o8, rfl, c4, hl4, ok4⟩ ⟨rfl, rfl⟩
    obtain ⟨g, hg⟩ : ∃ g, g = f + 34 * (4 - (i + 1)) := ⟨_, rfl⟩
    -- the name
    refine ⟨_, rfl, .inl ⟨rfl, _, SqL.of c4.nm⟩, _, rfl, _, rfl, _, _, rfl, p, N, g + 19, rows.map SL.Row.name, rfl, rfl, c4.pt.mono (by omega), c4.nm, nN, by rw [List.length_map]; omega, fun nm H5 hnm hnew hp5 k5 => ?_⟩
    have c5 := c4.draw nL nN k5 hp5
    refine ⟨N, _, _, rfl, rfl, c5.nm, by rw [List.length_map, List.length_map, sizeLine_eq]; omega, ?_⟩
    have c6 := c5.name nN nLN hNn nm
    generalize upd H5 N (.lst ((rows.map SL.Row.name).map V.str ++ [.str nm])) = H6 at c6 ⊢
    -- first
    refine ⟨_, rfl, _, rfl, _, rfl, take_q c6.pt (by omega) (by omega) fun j H7 j0 j1 hp7 k7 => ?_⟩
    have c7 := c6.draw nL nN k7 hp7
    refine ⟨(by show 3 ≤ sizeLine; decide), fun q hq => ?_⟩
    have c8 := c7.same (same_new (o := .lst [V.int 0, V.int 0, V.int j]) hq)
    refine of_q c8.pt upd_same (c7.pt.ne hq) (by show 0 < 3; decide) (by show 3 ≤ 1000000; decide) fun v H9 hv hp9 k9 => ?_
    have c9 := c8.draw nL nN k9 hp9
    obtain ⟨fi, rfl, hfi0, hfi1⟩ : ∃ fi, v = .int fi ∧ 0 ≤ fi ∧ fi < z := by
      rcases mem3 hv with rfl | rfl | rfl
      · exact ⟨_, rfl, by omega, by omega⟩
      · exact ⟨_, rfl, by omega, by omega⟩
      · exact ⟨_, rfl, by omega, by omega⟩
    -- many
    refine ⟨_, rfl, _, rfl, _, rfl, _, _, rfl, rfl, _, rfl, _, rfl, _, _, rfl, rfl, _, rfl, _, rfl, _, rfl, _, _, rfl, rfl, take_q c9.pt (by omega) (by omega) fun j H10 j0 j1 hp10 k10 => ?_⟩
    have c10 := c9.draw nL nN k10 hp10
    refine ⟨_, _, rfl, rfl, (by show 3 ≤ sizeLine; decide), fun q hq => ?_⟩
    have c11 := c10.same (same_new (o := .lst [V.int (z - fi), V.int (z - fi), V.int (1 + j)]) hq)
    refine of_q c11.pt upd_same (c10.pt.ne hq) (by show 0 < 3; decide) (by show 3 ≤ 1000000; decide) fun v H12 hv hp12 k12 => ?_
    have c12 := c11.draw nL nN k12 hp12
    obtain ⟨mn, rfl, hmn0, hmn1⟩ : ∃ mn : Nat, v = .int mn ∧ 1 ≤ mn ∧ mn ≤ z - fi := by
      rcases mem3 hv with rfl | rfl | rfl
      · exact ⟨(z - fi).toNat, congrArg V.int (by omega), by omega, by omega⟩
      · exact ⟨(z - fi).toNat, congrArg V.int (by omega), by omega, by omega⟩
      · exact ⟨(1 + j).toNat, congrArg V.int (by omega), by omega, by omega⟩
    -- least
    refine ⟨_, rfl, _, rfl, take_q c12.pt (by decide) (by decide) fun j H13 j0 j1 hp13 k13 => ?_⟩
    have c13 := c12.draw nL nN k13 hp13
    refine ⟨_, _, rfl, rfl, (by show 4 ≤ sizeLine; decide), fun q hq => ?_⟩
    have c14 := c13.same (same_new (o := .lst [V.int 1, V.int 2, V.int 3, V.int (1 + j)]) hq)
    refine of_q c14.pt upd_same (c13.pt.ne hq) (by show 0 < 4; decide) (by show 4 ≤ 1000000; decide) fun v H15 hv hp15 k15 => ?_
    have c15 := c14.draw nL nN k15 hp15
    obtain ⟨le, rfl, hle0, hle1⟩ : ∃ le, v = .int le ∧ 1 ≤ le ∧ le ≤ 9 := by
      simp only [List.mem_cons, List.not_mem_nil, or_false] at hv
      rcases hv with rfl | rfl | rfl | rfl
      · exact ⟨_, rfl, by omega, by omega⟩
      · exact ⟨_, rfl, by omega, by omega⟩
      · exact ⟨_, rfl, by omega, by omega⟩
      · exact ⟨_, rfl, by omega, by omega⟩
    -- the row
    obtain ⟨vs, hv15, _⟩ := c15.cl
    have hat : atI ((rows.map SL.Row.name ++ [nm]).map V.str) (-1) = some (V.str nm) := by
      rw [List.map_append]
      exact atI_last _ _
    refine ⟨_, rfl, .inl ⟨rfl, _, SqL.of hv15⟩, _, rfl, _, rfl, N, _, _, _, rfl, rfl, SqL.of c15.nm, hat, _, rfl, _, rfl, _, rfl, _, rfl, take_q (f := g + 9) (c15.pt.mono (by omega)) (by decide) (by decide) fun j H16 j0 j1 hp16 k16 => ?_⟩
    have c16 := c15.draw nL nN k16 hp16
    refine ⟨_, _, rfl, rfl, _, rfl, _, rfl, _, _, rfl, p, mn, g, rfl, rfl, hmn0, by omega, c16.pt, fun t ns H17 hns hok hp17 k17 ht17 => ?_⟩
    have c17 := c16.draw nL nN k17 hp17
    refine ⟨(by show 5 ≤ sizeLine; decide), fun q hq => ?_⟩
    have s18 := same_new (o := .tup [V.str nm, V.int fi, V.int le, V.int (le + j), V.ref t]) hq
    have c18 := c17.same s18
    have hv18 := s18 _ _ (k17 _ _ nL (k16 _ _ nL hv15))
    have rv : Rv (upd H17 q (.tup [V.str nm, V.int fi, V.int le, V.int (le + j), V.ref t])) (.ref q) (clD ⟨nm, fi, le, le + j, ns⟩) := .tup upd_same (.cons (.str _) (.cons (.int _) (.cons (.int _) (.cons (.int _) (.cons (.tup (s18 _ _ ht17) (RvL.ints _ _)) .nil)))))
    have hvl : vs.length = i := by
      obtain ⟨ws, g1, g2⟩ := c15.cl
      rw [hv15] at g1
      cases g1
      rw [g2.length, List.length_map, hl4]
    refine ⟨L, _, _, rfl, rfl, hv18, by rw [hvl, sizeLine_eq]; omega, ?_⟩
    refine ⟨rows ++ [⟨nm, fi, le, le + j, ns⟩], _, _, _, _, rfl, ?_, by rw [List.length_append, hl4]; rfl, ?_⟩
    · have := c18.row nL nLN hL hv18 rv
      rw [List.map_append, ← hg]
      exact this
    · refine ok4.snoc (rowOk_iff.mpr ⟨hnm, hfi0, hok, ?_, hle0, hle1, by show le ≤ le + j; omega, by show le + j ≤ le + 3; omega⟩) hnew
      show fi + (ns.length : Int) - 1 ≤ z - 1
      omega
  · rintro σ H4 ⟨rows, o3, o6, o7, o8, rfl, c4, hl4, ok4⟩
    exact ⟨_, rfl, k L rows H4 (by omega) (by omega) ok4 hL nL c4.cl (c4.pt.mono (by omega)) c4.kp⟩
end
end SK
set_option maxHeartbeats 4000000
namespace SL
open PySem PySem.Spec PyProof.Rows L2 TL
structure Lore where
  zooms : Int
  rows : List Row
  beside : List (Nat × Nat)
  far : List ((Nat × Nat) × Int)
  ord : Bool := false
def allPairs (m : Nat) : List (Nat × Nat) := (List.range m).flatMap fun i => (List.range (m - i)).map fun k => (i, i + k)
structure LoreOk (lo : Lore) : Prop where
  z1 : 1 ≤ lo.zooms
  z5 : lo.zooms ≤ 5
  r1 : 1 ≤ lo.rows.length
  r4 : lo.rows.length ≤ 4
  rows : RowsOk lo.zooms lo.rows
  be : lo.beside.Sublist (allPairs lo.rows.length)
  fa : (lo.far.map (·.1)).Sublist (allPairs lo.rows.length)
  di : ∀ p ∈ lo.far, 1 ≤ p.2 ∧ p.2 ≤ 9999
def numS (n : Int) : Str := toString n
theorem numL_head : ∀ n : Nat, 0 < n → (numL n).head? ≠ some 48
  | n, h => by
    by_cases hl : n < 10
    · rw [numL_lt hl]
      simp
      omega
    · rw [numL_step (by omega)]
      have ih := numL_head (n / 10) (by omega)
      have hne := numL_ne (n / 10)
      cases e : numL (n / 10) with
      | nil => exact absurd e hne
      | cons a b =>
        rw [e] at ih
        exact ih
theorem num_ok {n : Int} (h0 : 0 ≤ n) (h1 : n < 10 ^ 9) : wholeIn (numS n) = some n ∧ allFig (numS n) = true ∧ (numS n).length ≤ 9 := by
  obtain ⟨m, rfl⟩ := Int.eq_ofNat_of_zero_le h0
  have hl : (numL m).length ≤ 9 := numL_len (by decide) (by omega)
  have et : tl (numS (m : Int)) = numL m := tl_num m
  have g2 : allFig (numS (m : Int)) = true := by
    unfold allFig
    rw [List.all_eq_true]
    intro c hc
    rw [show (numS (m : Int)).cps.toList = numL m from et] at hc
    have := numL_digits m c hc
    exact decide_eq_true (fig_of this.1 this.2)
  refine ⟨?_, g2, by rw [TL.len_tl, et]; exact hl⟩
  have hr : intText? (numS (m : Int)) = some (m : Int) := int_num (by omega)
  have g1 : numS (m : Int) ≠ "" := fun z => by
    rw [z] at et
    exact numL_ne m et.symm
  have g3 : numS (m : Int) = "0" ∨ (numS (m : Int)).cps.toList.head? ≠ some 48 := by
    rw [show (numS (m : Int)).cps.toList = numL m from et]
    by_cases hm : m = 0
    · subst hm
      exact .inl (by decide +kernel)
    · exact .inr (numL_head m (by omega))
  unfold wholeIn
  rw [if_neg (fun z => by
    rcases z with z | z
    · exact g1 z
    · rw [g2] at z
      cases z), if_pos g3]
  exact hr
def clean (z : Str) : Prop := 32 ∉ tl z ∧ 10 ∉ tl z
theorem clean_fig {z : Str} (h : allFig z = true) : clean z := by
  have : ∀ c ∈ tl z, 48 ≤ c := fun c hc => (fig_ok (of_decide_eq_true (List.all_eq_true.mp h c hc))).1
  exact ⟨fun c => by have := this _ c; omega, fun c => by have := this _ c; omega⟩
theorem clean_name {z : Str} (h : isName z = true) : clean z := by
  unfold isName at h
  simp only [Bool.and_eq_true] at h
  have : ∀ c ∈ tl z, 97 ≤ c := fun c hc => (let_ok (of_decide_eq_true (List.all_eq_true.mp h.2 c hc))).1
  exact ⟨fun c => by have := this _ c; omega, fun c => by have := this _ c; omega⟩
theorem name_len {z : Str} (h : isName z = true) : z.length ≤ 12 := by
  unfold isName at h
  simp only [Bool.and_eq_true, decide_eq_true_eq] at h
  exact h.1.2
theorem tl_sp : tl (" " : Str) = [32] := by decide +kernel
theorem tl_nl : tl ("\n" : Str) = [10] := by decide +kernel
theorem mem_joinL {c : Nat} {S : List Nat} : ∀ {ps : List (List Nat)}, c ∈ joinL S ps → c ∈ S ∨ ∃ p ∈ ps, c ∈ p
  | [], h => by cases h
  | [p], h => .inr ⟨p, by simp, h⟩
  | p :: q :: r, h => by
    have h' : c ∈ p ++ (S ++ joinL S (q :: r)) := h
    rcases List.mem_append.mp h' with h1 | h1
    · exact .inr ⟨p, by simp, h1⟩
    · rcases List.mem_append.mp h1 with h2 | h2
      · exact .inl h2
      · rcases mem_joinL h2 with h3 | ⟨p', hp, hc⟩
        · exact .inl h3
        · exact .inr ⟨p', List.mem_cons_of_mem _ hp, hc⟩
def lineOf (ws : List Str) : Str := Txt.join " " ws
theorem line_split {ws : List Str} (hne : ws ≠ []) (hc : ∀ w ∈ ws, clean w) : Txt.split (lineOf ws) " " = ws := split_join (s := 32) (S := []) tl_sp (by decide +kernel) hne fun p hp => (hc p hp).1
theorem line_nl {ws : List Str} (hc : ∀ w ∈ ws, clean w) : 10 ∉ tl (lineOf ws) := fun h => by
  unfold lineOf at h
  rw [join_eq, tl_join, tl_sp] at h
  rcases mem_joinL h with h1 | ⟨p, hp, h1⟩
  · simp at h1
  · obtain ⟨z, hz, rfl⟩ := List.mem_map.mp hp
    exact (hc z hz).2 h1
theorem joinL_len {S : List Nat} {B : Nat} : ∀ {ps : List (List Nat)}, (∀ p ∈ ps, p.length ≤ B) → (joinL S ps).length ≤ ps.length * (B + S.length)
  | [], _ => by show 0 ≤ _; omega
  | [p], h => by
    show p.length ≤ 1 * _
    have := h p (by simp)
    omega
  | p :: q :: r, h => by
    show (p ++ (S ++ joinL S (q :: r))).length ≤ _
    have h1 := h p (by simp)
    have h2 := joinL_len (S := S) (B := B) (ps := q :: r) fun z hz => h z (List.mem_cons_of_mem _ hz)
    rw [List.length_append, List.length_append, List.length_cons (a := p), Nat.add_mul]
    omega
theorem join_len {y : Str} {ws : List Str} {B : Nat} (h : ∀ w ∈ ws, w.length ≤ B) : (Txt.join y ws).length ≤ ws.length * (B + y.length) := by
  rw [len_tl, join_eq, tl_join, len_tl y]
  refine Nat.le_trans (joinL_len (B := B) fun p hp => ?_) (by rw [List.length_map]; exact Nat.le_refl _)
  obtain ⟨z, hz, rfl⟩ := List.mem_map.mp hp
  rw [← len_tl]
  exact h z hz
def wZ (lo : Lore) : List Str := ["zooms", numS lo.zooms]
def wC (r : Row) : List Str := ([("class" : Str), r.name, numS r.first, numS r.least, numS r.most] : List Str) ++ r.sizes.map numS
def nmAt (rows : List Row) (i : Nat) : Str := ((rows[i]?).map (·.name)).getD ""
def wB (rows : List Row) (p : Nat × Nat) : List Str := ["beside", nmAt rows p.1, nmAt rows p.2]
def wF (rows : List Row) (p : (Nat × Nat) × Int) : List Str := ["far", nmAt rows p.1.1, nmAt rows p.1.2, numS p.2]
def linesOf (lo : Lore) : List (List Str) := wZ lo :: (lo.rows.map wC ++ (lo.beside.map (wB lo.rows) ++ lo.far.map (wF lo.rows)))
def textOf (lo : Lore) : Str := Txt.join "\n" ((linesOf lo).map lineOf)
def shortW (w : Str) : Prop := clean w ∧ w.length ≤ 12
theorem short_num {n : Int} (h0 : 0 ≤ n) (h1 : n < 10000) : shortW (numS n) := by
  obtain ⟨_, h2, h3⟩ := num_ok h0 (by omega)
  exact ⟨clean_fig h2, by omega⟩
theorem short_name {z : Str} (h : isName z = true) : shortW z := ⟨clean_name h, name_len h⟩
theorem short_zooms : shortW "zooms" := short_name (by decide +kernel)
theorem short_class : shortW "class" := short_name (by decide +kernel)
theorem short_beside : shortW "beside" := short_name (by decide +kernel)
theorem short_far : shortW "far" := short_name (by decide +kernel)
theorem allPairs_lt {m : Nat} {p : Nat × Nat} (h : p ∈ allPairs m) : p.1 ≤ p.2 ∧ p.2 < m := by
  unfold allPairs at h
  obtain ⟨i, hi, h2⟩ := List.mem_flatMap.mp h
  obtain ⟨k, hk, rfl⟩ := List.mem_map.mp h2
  rw [List.mem_range] at hi hk
  exact ⟨by show i ≤ i + k; omega, by show i + k < m; omega⟩
theorem allPairs_asc {m : Nat} (h : m ≤ 4) : Asc (allPairs m) := by
  have : ∀ m : Fin 5, (allPairs m.val).Pairwise fun p q => pairLe q p = false := by decide +kernel
  exact this ⟨m, by omega⟩
theorem allPairs_len {m : Nat} (h : m ≤ 4) : (allPairs m).length ≤ 10 := by
  have : ∀ m : Fin 5, (allPairs m.val).length ≤ 10 := by decide +kernel
  exact this ⟨m, by omega⟩
theorem nmAt_get {rows : List Row} {i : Nat} (h : i < rows.length) : rows[i]? = some rows[i] ∧ nmAt rows i = rows[i].name := by
  have e := List.getElem?_eq_getElem h
  refine ⟨e, ?_⟩
  unfold nmAt
  rw [e]
  rfl
theorem sizes_rng {ns : List Int} (h : sizesOk ns = true) {n : Int} (hn : n ∈ ns) : 2 ≤ n ∧ n ≤ 9 := by
  unfold sizesOk at h
  simp only [Bool.and_eq_true] at h
  have := List.all_eq_true.mp h.2.1 n hn
  simpa using this
theorem LoreOk.nm {lo : Lore} (h : LoreOk lo) {i : Nat} (hi : i < lo.rows.length) : isName (nmAt lo.rows i) = true := by
  rw [(nmAt_get hi).2]
  exact (rowOk_iff.mp (h.rows.ok _ (List.getElem_mem hi))).1
theorem LoreOk.short {lo : Lore} (h : LoreOk lo) : ∀ ws ∈ linesOf lo, ws ≠ [] ∧ ws.length ≤ 10 ∧ ∀ w ∈ ws, shortW w := by
  intro ws hws
  unfold linesOf at hws
  have hz1 := h.z1
  have hz5 := h.z5
  simp only [List.mem_cons, List.mem_append, List.mem_map] at hws
  rcases hws with rfl | ⟨r, hr, rfl⟩ | ⟨p, hp, rfl⟩ | ⟨p, hp, rfl⟩
  · refine ⟨by simp [wZ], by simp [wZ], fun w hw => ?_⟩
    simp only [wZ, List.mem_cons, List.not_mem_nil, or_false] at hw
    rcases hw with rfl | rfl
    · exact short_zooms
    · exact short_num (by omega) (by omega)
  · obtain ⟨r1, r2, r3, r4, r5, r6, r7, r8⟩ := rowOk_iff.mp (h.rows.ok r hr)
    refine ⟨by simp [wC], ?_, fun w hw => ?_⟩
    · simp only [wC, List.length_append, List.length_map, List.length_cons, List.length_nil]
      omega
    · simp only [wC, List.cons_append, List.nil_append, List.mem_cons, List.mem_map] at hw
      have := sizesOk_pos r3
      rcases hw with rfl | rfl | rfl | rfl | rfl | ⟨n, hn, rfl⟩
      · exact short_class
      · exact short_name r1
      · exact short_num (by omega) (by omega)
      · exact short_num (by omega) (by omega)
      · exact short_num (by omega) (by omega)
      · have := sizes_rng r3 hn
        exact short_num (by omega) (by omega)
  · have hm := allPairs_lt (h.be.subset hp)
    refine ⟨by simp [wB], by simp [wB], fun w hw => ?_⟩
    simp only [wB, List.mem_cons, List.not_mem_nil, or_false] at hw
    rcases hw with rfl | rfl | rfl
    · exact short_beside
    · exact short_name (h.nm (by omega))
    · exact short_name (h.nm (by omega))
  · have hm := allPairs_lt (h.fa.subset (List.mem_map.mpr ⟨p, hp, rfl⟩))
    have hd := h.di p hp
    refine ⟨by simp [wF], by simp [wF], fun w hw => ?_⟩
    simp only [wF, List.mem_cons, List.not_mem_nil, or_false] at hw
    rcases hw with rfl | rfl | rfl | rfl
    · exact short_far
    · exact short_name (h.nm (by omega))
    · exact short_name (h.nm (by omega))
    · exact short_num (by omega) (by omega)
theorem LoreOk.count {lo : Lore} (h : LoreOk lo) : (linesOf lo).length ≤ 25 := by
  have h1 := h.be.length_le
  have h2 := h.fa.length_le
  have h3 := allPairs_len h.r4
  have h4 := h.r4
  rw [List.length_map] at h2
  simp only [linesOf, List.length_cons, List.length_append, List.length_map]
  omega
theorem LoreOk.split {lo : Lore} (h : LoreOk lo) : Txt.split (textOf lo) "\n" = (linesOf lo).map lineOf := by
  refine split_join (s := 10) (S := []) tl_nl (by decide +kernel) (by simp [linesOf]) fun p hp => ?_
  obtain ⟨ws, hws, rfl⟩ := List.mem_map.mp hp
  exact line_nl fun w hw => ((h.short ws hws).2.2 w hw).1
theorem LoreOk.lineLen {lo : Lore} (h : LoreOk lo) : ∀ ws ∈ linesOf lo, (lineOf ws).length ≤ 130 := fun ws hws => by
  obtain ⟨_, h2, h3⟩ := h.short ws hws
  refine Nat.le_trans (join_len (B := 12) fun w hw => (h3 w hw).2) ?_
  have : (" " : Str).length = 1 := by decide +kernel
  rw [this]
  omega
def Reads' (st : RSt) (ls : List (List Str)) (st' : RSt) : Prop := ∀ n rest, readL st n (ls.map lineOf ++ rest) = readL st' (n + ls.length) rest
theorem Reads'.nil (st : RSt) : Reads' st [] st := fun n rest => rfl
theorem Reads'.cons {st s1 s2 : RSt} {ws : List Str} {ls : List (List Str)} (hw : takeWords st ws = some s1) (hne : ws ≠ []) (hc : ∀ w ∈ ws, clean w) (h : Reads' s1 ls s2) : Reads' st (ws :: ls) s2 := fun n rest => by
  have e : takeLine st (lineOf ws) = some s1 := by
    unfold takeLine
    rw [line_split hne hc]
    exact hw
  rw [List.map_cons, List.cons_append, readL_some e, h (n + 1) rest, List.length_cons, show n + 1 + ls.length = n + (ls.length + 1) by omega]
theorem Reads'.app {st s1 s2 : RSt} {a b : List (List Str)} (h1 : Reads' st a s1) (h2 : Reads' s1 b s2) : Reads' st (a ++ b) s2 := fun n rest => by
  rw [List.map_append, List.append_assoc, h1, h2, List.length_append, Nat.add_assoc]
theorem rowOf_wC {r : Row} {last : Int} (h : rowOk r last = true) (hl : last ≤ 4) : classRow (wC r) last = some r := by
  obtain ⟨r1, r2, r3, r4, r5, r6, r7, r8⟩ := rowOk_iff.mp h
  have hp := sizesOk_pos r3
  have e : rowOf (wC r) = some r := by
    obtain ⟨nm, f, l, m, sz⟩ := r
    cases sz with
    | nil => cases hp
    | cons s0 ss =>
      have es : intsOf ((numS s0 :: ss.map numS).map wholeIn) = some (s0 :: ss) := by
        rw [← intsOf_map (s0 :: ss)]
        congr 1
        rw [← List.map_cons (f := numS), List.map_map]
        refine List.map_congr_left fun n hn => ?_
        have := sizes_rng r3 hn
        exact (num_ok (by omega) (by omega)).1
      dsimp only at r2 r4 r5 r6 r7 r8 hp
      have e1 := (num_ok (n := f) (by omega) (by omega)).1
      have e2 := (num_ok (n := l) (by omega) (by omega)).1
      have e3 := (num_ok (n := m) (by omega) (by omega)).1
      show (match wholeIn (numS f), wholeIn (numS l), wholeIn (numS m), intsOf ((numS s0 :: ss.map numS).map wholeIn) with
        | some f, some l, some m, some ns => some (⟨nm, f, l, m, ns⟩ : Row)
        | _, _, _, _ => none) = _
      rw [e1, e2, e3, es]
  unfold classRow
  rw [e]
  exact if_pos h
theorem reads_rows {lo : Lore} (h : LoreOk lo) : ∀ (rest pre : List Row) (s : Str), pre ++ rest = lo.rows → ("class" : Str) ∈ behind s →
    ∃ s', (rest = [] → s' = s) ∧ (rest ≠ [] → s' = "class") ∧ Reads' ⟨s, lo.zooms - 1, pre, [], []⟩ (rest.map wC) ⟨s', lo.zooms - 1, lo.rows, [], []⟩
  | [], pre, s, e, _ => ⟨s, fun _ => rfl, fun z => absurd rfl z, by rw [← e, List.append_nil]; exact Reads'.nil _⟩
  | r :: rest, pre, s, e, hs => by
    have hz5 := h.z5
    have hmem : r ∈ lo.rows := by rw [← e]; simp
    have hok := h.rows.ok r hmem
    have hlen : pre.length < 4 := by
      have := congrArg List.length e
      rw [List.length_append, List.length_cons] at this
      have := h.r4
      omega
    have hnew : r.name ∉ pre.map (·.name) := by
      have := h.rows.nd
      rw [← e, List.map_append, List.nodup_append] at this
      exact fun hm => this.2.2 _ hm _ (by simp) rfl
    obtain ⟨s', h1, h2, h3⟩ := reads_rows h rest (pre ++ [r]) "class" (by rw [List.append_assoc]; exact e) (by decide +kernel)
    have tk : takeWords ⟨s, lo.zooms - 1, pre, [], []⟩ (wC r) = some ⟨"class", lo.zooms - 1, pre ++ [r], [], []⟩ := by
      show (if ("class" : Str) ∈ behind s then _ else _) = _
      rw [if_pos hs, if_neg (by decide), if_pos rfl]
      unfold takeClass
      show (classRow (wC r) (lo.zooms - 1)).bind _ = _
      rw [rowOf_wC hok (by omega)]
      show (if pre.length = 4 ∨ r.name ∈ names _ then _ else _) = _
      rw [if_neg]
      exact fun z => by
        rcases z with z | z
        · omega
        · exact hnew z
    have sh := h.short (wC r) (by unfold linesOf; simp only [List.mem_cons, List.mem_append, List.mem_map]; exact .inr (.inl ⟨r, hmem, rfl⟩))
    refine ⟨s', fun z => (nomatch z), fun _ => ?_, h3.cons tk sh.1 fun w hw => (sh.2.2 w hw).1⟩
    cases rest with
    | nil => exact h1 rfl
    | cons a b => exact h2 (by simp)
theorem pairOf_nm {rows : List Row} (nd : (rows.map (·.name)).Nodup) {i j : Nat} (hij : i ≤ j) (hj : j < rows.length) : pairOf (rows.map (·.name)) (nmAt rows i) (nmAt rows j) = some (i, j) := by
  have ei : (rows.map (·.name))[i]? = some (nmAt rows i) := by rw [List.getElem?_map, (nmAt_get (by omega)).1, (nmAt_get (by omega)).2]; rfl
  have ej : (rows.map (·.name))[j]? = some (nmAt rows j) := by rw [List.getElem?_map, (nmAt_get hj).1, (nmAt_get hj).2]; rfl
  unfold pairOf
  rw [if_pos ⟨List.mem_of_getElem? ei, List.mem_of_getElem? ej⟩, idx_nd nd ei, idx_nd nd ej, if_pos hij]
theorem reads_beside {lo : Lore} (h : LoreOk lo) : ∀ (rest pre : List (Nat × Nat)) (s : Str), pre ++ rest = lo.beside → ("beside" : Str) ∈ behind s → ("far" : Str) ∈ behind s →
    ∃ s', ("far" : Str) ∈ behind s' ∧ Reads' ⟨s, lo.zooms - 1, lo.rows, pre, []⟩ (rest.map (wB lo.rows)) ⟨s', lo.zooms - 1, lo.rows, lo.beside, []⟩
  | [], pre, s, e, _, hf => ⟨s, hf, by rw [← e, List.append_nil]; exact Reads'.nil _⟩
  | p :: rest, pre, s, e, hs, hf => by
    have hmem : p ∈ lo.beside := by rw [← e]; simp
    have hlt := allPairs_lt (h.be.subset hmem)
    have hasc : Asc lo.beside := List.Pairwise.sublist h.be (allPairs_asc h.r4)
    have hlast : (pre.getLast?.any fun q => pairLe p q) = false := by
      cases el : pre.getLast? with
      | none => rfl
      | some q =>
        obtain ⟨ys, rfl⟩ := List.getLast?_eq_some_iff.mp el
        rw [← e] at hasc
        exact (List.pairwise_append.mp hasc).2.2 q (by simp) p (by simp)
    obtain ⟨s', h1, h3⟩ := reads_beside h rest (pre ++ [p]) "beside" (by rw [List.append_assoc]; exact e) (by decide +kernel) (by decide +kernel)
    have tk : takeWords ⟨s, lo.zooms - 1, lo.rows, pre, []⟩ (wB lo.rows p) = some ⟨"beside", lo.zooms - 1, lo.rows, pre ++ [p], []⟩ := by
      show (if ("beside" : Str) ∈ behind s then _ else _) = _
      rw [if_pos hs, if_neg (by decide), if_neg (by decide), if_pos rfl]
      show (pairOf (lo.rows.map (·.name)) (nmAt lo.rows p.1) (nmAt lo.rows p.2)).bind _ = _
      rw [pairOf_nm h.rows.nd hlt.1 hlt.2]
      show (if (pre.getLast?.any fun q => pairLe (p.1, p.2) q) = true then _ else _) = _
      rw [hlast]
      rfl
    have sh := h.short (wB lo.rows p) (by unfold linesOf; simp only [List.mem_cons, List.mem_append, List.mem_map]; exact .inr (.inr (.inl ⟨p, hmem, rfl⟩)))
    exact ⟨s', h1, h3.cons tk sh.1 fun w hw => (sh.2.2 w hw).1⟩
theorem reads_far {lo : Lore} (h : LoreOk lo) : ∀ (rest pre : List ((Nat × Nat) × Int)) (s : Str), pre ++ rest = lo.far → ("far" : Str) ∈ behind s →
    ∃ s', Reads' ⟨s, lo.zooms - 1, lo.rows, lo.beside, pre⟩ (rest.map (wF lo.rows)) ⟨s', lo.zooms - 1, lo.rows, lo.beside, lo.far⟩
  | [], pre, s, e, hf => ⟨s, by rw [← e, List.append_nil]; exact Reads'.nil _⟩
  | p :: rest, pre, s, e, hs => by
    have hmem : p ∈ lo.far := by rw [← e]; simp
    have hlt := allPairs_lt (h.fa.subset (List.mem_map.mpr ⟨p, hmem, rfl⟩))
    have hd := h.di p hmem
    have hasc : Asc (lo.far.map (·.1)) := List.Pairwise.sublist h.fa (allPairs_asc h.r4)
    have hlast : (pre.getLast?.any fun q => pairLe p.1 q.1) = false := by
      cases el : pre.getLast? with
      | none => rfl
      | some q =>
        obtain ⟨ys, rfl⟩ := List.getLast?_eq_some_iff.mp el
        rw [← e, List.map_append] at hasc
        exact (List.pairwise_append.mp hasc).2.2 q.1 (by simp) p.1 (by simp)
    obtain ⟨s', h3⟩ := reads_far h rest (pre ++ [p]) "far" (by rw [List.append_assoc]; exact e) (by decide +kernel)
    have tk : takeWords ⟨s, lo.zooms - 1, lo.rows, lo.beside, pre⟩ (wF lo.rows p) = some ⟨"far", lo.zooms - 1, lo.rows, lo.beside, pre ++ [p]⟩ := by
      show (if ("far" : Str) ∈ behind s then _ else _) = _
      rw [if_pos hs, if_neg (by decide), if_neg (by decide), if_neg (by decide)]
      show (pairOf (lo.rows.map (·.name)) (nmAt lo.rows p.1.1) (nmAt lo.rows p.1.2)).bind _ = _
      rw [pairOf_nm h.rows.nd hlt.1 hlt.2]
      show (if (pre.getLast?.any fun q => pairLe (p.1.1, p.1.2) q.1) = true then _ else _) = _
      rw [hlast]
      show (wholeIn (numS p.2)).bind _ = _
      rw [(num_ok (by omega) (by omega)).1]
      exact if_pos hd
    have sh := h.short (wF lo.rows p) (by unfold linesOf; simp only [List.mem_cons, List.mem_append, List.mem_map]; exact .inr (.inr (.inr ⟨p, hmem, rfl⟩)))
    exact ⟨s', h3.cons tk sh.1 fun w hw => (sh.2.2 w hw).1⟩
theorem LoreOk.reads {lo : Lore} (h : LoreOk lo) : ∃ s, readStyle (textOf lo) = .ok ⟨s, lo.zooms - 1, lo.rows, lo.beside, lo.far⟩ := by
  have hz1 := h.z1
  have hz5 := h.z5
  obtain ⟨s1, _, h12, h1⟩ := reads_rows h lo.rows [] "zooms" rfl (by decide +kernel)
  have hne : lo.rows ≠ [] := fun z => by
    have := h.r1
    rw [z] at this
    cases this
  have e1 := h12 hne
  subst e1
  obtain ⟨s2, hf2, h2⟩ := reads_beside h lo.beside [] "class" rfl (by decide +kernel) (by decide +kernel)
  obtain ⟨s3, h3⟩ := reads_far h lo.far [] s2 rfl hf2
  have tk : takeWords stZero (wZ lo) = some ⟨"zooms", lo.zooms - 1, [], [], []⟩ := by
    unfold takeWords wZ
    dsimp only
    rw [if_pos (show ("zooms" : Str) ∈ behind stZero.sort by decide +kernel), if_pos rfl]
    show (wholeIn (numS lo.zooms)).bind _ = _
    rw [(num_ok (by omega) (by omega)).1]
    exact if_pos ⟨hz1, hz5⟩
  have sh := h.short (wZ lo) (by unfold linesOf; simp)
  have all : Reads' stZero (linesOf lo) ⟨s3, lo.zooms - 1, lo.rows, lo.beside, lo.far⟩ := (h1.app (h2.app h3)).cons tk sh.1 fun w hw => (sh.2.2 w hw).1
  have e := all 0 []
  rw [List.append_nil] at e
  refine ⟨s3, ?_⟩
  unfold readStyle
  rw [h.split, e]
  exact if_neg hne
end SL
set_option maxHeartbeats 4000000
namespace SL
open PySem PySem.Spec PyProof.Rows L2
def isThere (r : Row) (n : Int) : Bool := decide (r.first ≤ n) && decide (n < r.first + r.sizes.length)
def lgK (o : Bool) (a b c e : V) : List (Key × V) := if o = true then [(.inr "zooms", a), (.inr "classes", e), (.inr "beside", b), (.inr "far", c)] else [(.inr "zooms", a), (.inr "beside", b), (.inr "far", c), (.inr "classes", e)]
def LoreAt (H : Hp) (v : V) (lo : Lore) : Prop := ∃ d B F L, v = .ref d ∧ H d = some (.dK (lgK lo.ord (.int lo.zooms) (.ref B) (.ref F) (.ref L))) ∧
  (∃ vs, H B = some (.lst vs) ∧ RvL H vs (lo.beside.map pairD)) ∧ (∃ vs, H F = some (.lst vs) ∧ RvL H vs (lo.far.map farD)) ∧ ClsAt H L lo.rows
theorem LoreAt.same {H H' : Hp} {v : V} {lo : Lore} (h : LoreAt H v lo) (s : Same H H') : LoreAt H' v lo := by
  obtain ⟨d, B, F, L, e, h1, ⟨v1, h2, h3⟩, ⟨v2, h4, h5⟩, h6⟩ := h
  exact ⟨d, B, F, L, e, s _ _ h1, ⟨v1, s _ _ h2, h3.same s⟩, ⟨v2, s _ _ h4, h5.same s⟩, h6.same s⟩
theorem Pt.neT {p a : Addr} {f : Nat} {H : Hp} {vs : List V} {ds : List PyData} (hp : Pt p f H) (ha : H a = some (.lst vs)) (r : RvL H vs ds) (ht : ∀ d ∈ ds, ∃ es, d = .tuple es) : a ≠ p := fun e => by
  obtain ⟨l, h1, o, m, c, rfl, _⟩ := hp
  rw [e, h1] at ha
  cases ha
  cases r with
  | cons h _ =>
    obtain ⟨es, e⟩ := ht _ List.mem_cons_self
    rw [e] at h
    cases h
theorem Pt.neD {p a : Addr} {f : Nat} {H : Hp} {kvs : List (Key × V)} (hp : Pt p f H) (ha : H a = some (.dK kvs)) : a ≠ p := fun e => by
  obtain ⟨l, h1, _⟩ := hp
  rw [e, h1] at ha
  cases ha
theorem tupP (l : List (Nat × Nat)) : ∀ d ∈ l.map pairD, ∃ es, d = .tuple es := fun d hd => by
  obtain ⟨p, _, rfl⟩ := List.mem_map.mp hd
  exact ⟨_, rfl⟩
theorem tupF (l : List ((Nat × Nat) × Int)) : ∀ d ∈ l.map farD, ∃ es, d = .tuple es := fun d hd => by
  obtain ⟨p, _, rfl⟩ := List.mem_map.mp hd
  exact ⟨_, rfl⟩
theorem tupC (l : List Row) : ∀ d ∈ l.map clD, ∃ es, d = .tuple es := fun d hd => by
  obtain ⟨p, _, rfl⟩ := List.mem_map.mp hd
  exact ⟨_, rfl⟩
theorem ClsAt.ne {p L : Addr} {f : Nat} {H : Hp} {rows : List Row} (h : ClsAt H L rows) (hp : Pt p f H) : L ≠ p := by
  obtain ⟨vs, h1, h2⟩ := h
  exact hp.neT h1 h2 (tupC _)
theorem LoreAt.kp {p : Addr} {f : Nat} {H H' : Hp} {v : V} {lo : Lore} (h : LoreAt H v lo) (hp : Pt p f H) (k : Kp p H H') : LoreAt H' v lo := by
  obtain ⟨d, B, F, L, e, h1, ⟨v1, h2, h3⟩, ⟨v2, h4, h5⟩, h6⟩ := h
  exact ⟨d, B, F, L, e, k _ _ (hp.neD h1) h1, ⟨v1, k _ _ (hp.neT h2 h3 (tupP _)) h2, h3.tk (hp.tk k) (pairD_fz _)⟩, ⟨v2, k _ _ (hp.neT h4 h5 (tupF _)) h4, h5.tk (hp.tk k) (farD_fz _)⟩, h6.kp hp (h6.ne hp) k⟩
section
variable {H : Hp} {d : Addr} {a b c e : V}
theorem lg_zooms {o : Bool} (h : H d = some (.dK (lgK o a b c e))) : DGet H d (.str "zooms") (some a) := by
  cases o <;> exact DGet.k (k := .inr "zooms") h
theorem lg_beside {o : Bool} (h : H d = some (.dK (lgK o a b c e))) : DGet H d (.str "beside") (some b) := by
  cases o <;> exact DGet.k (k := .inr "beside") h
theorem lg_far {o : Bool} (h : H d = some (.dK (lgK o a b c e))) : DGet H d (.str "far") (some c) := by
  cases o <;> exact DGet.k (k := .inr "far") h
theorem lg_classes {o : Bool} (h : H d = some (.dK (lgK o a b c e))) : DGet H d (.str "classes") (some e) := by
  cases o <;> exact DGet.k (k := .inr "classes") h
end
theorem cl_parts {H : Hp} {v : V} {r : Row} (h : Rv H v (clD r)) : ∃ t u, v = .ref t ∧ H t = some (.tup [.str r.name, .int r.first, .int r.least, .int r.most, .ref u]) ∧ H u = some (.tup (r.sizes.map V.int)) := by
  unfold clD at h
  cases h with
  | tup h1 h2 =>
    cases h2 with
    | cons a1 h2 =>
      cases h2 with
      | cons a2 h2 =>
        cases h2 with
        | cons a3 h2 =>
          cases h2 with
          | cons a4 h2 =>
            cases h2 with
            | cons a5 h2 =>
              cases h2
              cases a1
              cases a2
              cases a3
              cases a4
              cases a5 with
              | tup g1 g2 =>
                rw [RvL.toInts g2] at g1
                exact ⟨_, _, rfl, h1, g1⟩
theorem pair_parts {H : Hp} {v : V} {p : Nat × Nat} (h : Rv H v (pairD p)) : ∃ t, v = .ref t ∧ H t = some (.tup [.int p.1, .int p.2]) := by
  unfold pairD at h
  cases h with
  | tup h1 h2 =>
    have := RvL.toInts (ns := [(p.1 : Int), p.2]) h2
    rw [this] at h1
    exact ⟨_, rfl, h1⟩
theorem ClsAt.get {H : Hp} {L : Addr} {rows : List Row} {i : Nat} {r : Row} (h : ClsAt H L rows) (e : rows[i]? = some r) : ∃ vs v, H L = some (.lst vs) ∧ vs[i]? = some v ∧ Rv H v (clD r) := by
  obtain ⟨vs, h1, h2⟩ := h
  obtain ⟨v, h3, h4⟩ := h2.get (i := i) (d := clD r) (by rw [List.getElem?_map, e]; rfl)
  exact ⟨vs, v, h1, h3, h4⟩
def pix (z n : Int) : Int := 2 ^ (z - 1 - n).toNat
def spPairsL : Sp := sp1 fun a H Q _ => ∃ m : Nat, a = .int m ∧ m ≤ 4 ∧ ∀ (L : Addr) (vs : List V) (H' : Hp), Same H H' → H L = none → H' L = some (.lst vs) → RvL H' vs ((allPairs m).map pairD) → Q (.ref L) H'
def spThereL : Sp := sp2 fun a b H Q _ => ∃ (r : Row) (n : Int), Rv H a (clD r) ∧ b = .int n ∧ Q (.bl (isThere r n)) H
def spPixelL : Sp := sp2 fun a b H Q _ => ∃ (lo : Lore) (n : Int), LoreAt H a lo ∧ lo.zooms ≤ 5 ∧ 0 ≤ n ∧ n < lo.zooms ∧ b = .int n ∧ ∀ H', Same H H' → Q (.int (pix lo.zooms n)) H'
def spHalfL : Sp := sp4 fun a b c d H Q _ => ∃ (lo : Lore) (i : Nat) (r : Row) (m n : Int), LoreAt H a lo ∧ lo.zooms ≤ 5 ∧ b = .int i ∧ lo.rows[i]? = some r ∧ c = .int m ∧ 0 ≤ m ∧ m ≤ 100 ∧ d = .int n ∧ 0 ≤ n ∧ n < lo.zooms ∧ isThere r n = true ∧ sizesOk r.sizes = true ∧
  ∀ H', Same H H' → Q (.int (m * sizeAt r n * pix lo.zooms n)) H'
theorem pix_at {z n : Int} (h0 : 0 ≤ n) (h1 : n < z) (h5 : z ≤ 5) : atI [V.int 1, V.int 2, V.int 4, V.int 8, V.int 16] (z - 1 - n) = some (V.int (pix z n)) ∧ 1 ≤ pix z n ∧ pix z n ≤ 16 := by
  have : ∀ k : Fin 5, atI [V.int 1, V.int 2, V.int 4, V.int 8, V.int 16] (k.val : Int) = some (V.int ((2 : Int) ^ k.val)) ∧ 1 ≤ (2 : Int) ^ k.val ∧ (2 : Int) ^ k.val ≤ 16 := by decide +kernel
  have h := this ⟨(z - 1 - n).toNat, by omega⟩
  unfold pix
  rw [show (((⟨(z - 1 - n).toNat, by omega⟩ : Fin 5).val : Nat) : Int) = z - 1 - n by show ((z - 1 - n).toNat : Int) = _; omega] at h
  exact h
theorem size_at {r : Row} {n : Int} (h : isThere r n = true) : (r.sizes.map V.int)[(n - r.first).toNat]? = some (V.int (sizeAt r n)) ∧ 0 ≤ n - r.first ∧ sizeAt r n ∈ r.sizes := by
  unfold isThere at h
  simp only [Bool.and_eq_true, decide_eq_true_eq] at h
  have h0 : 0 ≤ n - r.first := by omega
  have hl : (n - r.first).toNat < r.sizes.length := by omega
  have e : sizeAt r n = r.sizes[(n - r.first).toNat] := by
    unfold sizeAt
    rw [if_pos h0, List.getElem?_eq_getElem hl]
    rfl
  refine ⟨?_, h0, ?_⟩
  · rw [List.getElem?_map, List.getElem?_eq_getElem hl, e]
    rfl
  · rw [e]
    exact List.getElem_mem hl
end SL
namespace SK
open PySem PySem.Spec PyProof.Rows L2 SL
section
variable {w : World} {K : PySem.W.Frag} {mg : Str → Option Value} {base : Heap}
abbrev n_law_pairs : List Str := ["_law_many", "_law_found", "_law_i", "_law_j"]
theorem sc_law_pairs : FnScope n_law_pairs ["_law_many"] (defScope d_law_pairs) := ⟨rfl, rfl, rfl, by decide +kernel, rfl, by decide +kernel, by decide +kernel⟩
theorem ok_law_pairs (T : Top w K mg) : Has prg w K mg base CX0 1 (He.ga K "_law_pairs") ["_law_many"] spPairsL := by
  obtain ⟨fd, F⟩ := T.F_law_pairs
  refine ⟨fd, F.ok (k := 0) sc_law_pairs (fun _ _ _ _ h => sp1_len h) (fun cdv A outer s H vs Q E hr h => ?_), F.bindsN (fun _ _ _ _ _ _ us hl => match us, hl with | [_], _ => rfl), F.kp⟩
  obtain ⟨v0, rfl, h⟩ := h
  refine ⟨_, PSs.nox (pss_cons (ps_set (i := 1) sc_law_pairs.nd rfl (Or.inl rfl) (pe_lst pa_nil))
    (pss_cons (ps_for PassesOwn.never rfl (pi_range1 (by rfl) T.b_range (pa_cons (pv 0) pa_nil)) (pg_name (i := 2) sc_law_pairs.nd rfl (Or.inr rfl)) (pss_one (ps_expr (pe_bm PySem.F.plainAttrs_list PySem.F.slot_list_extend PySem.F.type_list_extend mt_extend (pv 1) (pa_cons (pe_lc (own := [("_law_j", 3)]) (g := gName 3) (by rfl) sc_law_pairs.nd (pi_range2 (by rfl) T.b_range (pa_cons (pv 2) (pa_cons (pv 0) pa_nil))) (blkOk_by (N := n_law_pairs) (sc := defScope d_law_pairs) (own := [("_law_j", 3)]) (by decide +kernel)) (fun _ _ _ _ _ => (pg_name (i := 3) sc_law_pairs.nd rfl (Or.inl rfl) (.inr rfl))) (fun _ _ _ _ _ => pts_nil) (fun _ _ _ _ _ => (pe_tup (pa_cons (pv 2) (pa_cons (pv 3) pa_nil))))) pa_nil)))))
    (pss_one (ps_ret (pv 1))))), ?_⟩
  obtain ⟨m, rfl, hm, k⟩ := h
  refine ⟨(by show 0 ≤ sizeLine; decide), fun L hL => ?_⟩
  refine ⟨_, rfl, _, rfl, by omega, by omega, ?_⟩
  refine for_it (walk_range (lo := 0) (n := ((m : Int)).toNat)) (fun i σ H4 => ∃ (o2 o3 : Option V) (vs : List V), σ = [some (.int m), some (.ref L), o2, o3] ∧ Same H H4 ∧ H4 L = some (.lst vs) ∧ RvL H4 vs (((List.range i).flatMap fun i => (List.range (m - i)).map fun k => (i, i + k)).map SL.pairD) ∧ vs.length ≤ 4 * i)
    ⟨none, none, [], rfl, same_new hL, upd_same, .nil, Nat.zero_le _⟩ (fun _ _ _ _ _ => trivial) ?_ ?_
  · rintro i x σ H4 H5 hi ⟨o2, o3, vs, rfl, s4, hL4, rv4, ln4⟩ ⟨rfl, rfl⟩
    refine ⟨_, rfl, .inl ⟨rfl, _, SqL.of hL4⟩, _, rfl, _, rfl, _, _, rfl, ⟨by omega, by omega, by omega, by omega⟩, fun D hD => ?_⟩
    have hn : ((m : Int) - (0 + (i : Int))).toNat = m - i := by omega
    refine lc_fz (walk_range (lo := 0 + (i : Int)) (n := ((m : Int) - (0 + (i : Int))).toNat)) (fun k => some (SL.pairD (i, i + k))) (fun k d e => by cases e; rfl) hD (by rw [hn, sizeLine_eq]; omega) (fun _ _ => trivial) ?_ ?_
    · rintro j x H6 H7 Ky Kn hj s6 ⟨rfl, rfl⟩ ky kn
      refine ⟨rfl, _, rfl, _, rfl, (by show 2 ≤ sizeLine; decide), fun t ht => ky _ _ _ rfl ?_ (same_new ht)⟩
      have e : SL.pairD (i, i + j) = .tuple [.int (0 + (i : Int)), .int (0 + (i : Int) + (j : Int))] := by
        show PyData.tuple [.int ((i : Nat) : Int), .int ((i + j : Nat) : Int)] = _
        rw [Int.zero_add, Int.natCast_add]
      rw [e]
      exact .tup upd_same (.cons (.int _) (.cons (.int _) .nil))
    · intro H6 l s6 hD6 rv6
      have ll : l.length ≤ m - i := by
        rw [rv6.length]
        exact Nat.le_trans (fm_len _ _) (by omega)
      have hL6 := s6 _ _ hL4
      refine ⟨L, D, vs, l, rfl, rfl, hL6, hD6, by rw [sizeLine_eq]; omega, ?_⟩
      refine ⟨_, _, vs ++ l, rfl, ?_, upd_same, ?_, by rw [List.length_append]; omega⟩
      · intro b o hb
        rw [upd_ne (ne_of_none hb hL)]
        exact s6 _ _ (s4 _ _ hb)
      · have t7 : Tk H6 (upd H6 L (.lst (vs ++ l))) := Tk.updL hL6
        rw [fm_some, hn] at rv6
        have e : (((List.range (i + 1)).flatMap fun i => (List.range (m - i)).map fun k => (i, i + k)).map SL.pairD) = (((List.range i).flatMap fun i => (List.range (m - i)).map fun k => (i, i + k)).map SL.pairD) ++ (List.range (m - i)).map fun k => SL.pairD (i, i + k) := by
          rw [List.range_succ, List.flatMap_append, List.map_append]
          congr 1
          simp [List.flatMap_cons, List.map_map]
        rw [e]
        refine ((rv4.same s6).tk t7 (pairD_fz _)).app (rv6.tk t7 (fzAll_iff.mpr fun d hd => ?_))
        obtain ⟨q, _, rfl⟩ := List.mem_map.mp hd
        rfl
  · rintro σ H4 ⟨o2, o3, vs, rfl, s4, hL4, rv4, ln4⟩
    exact ⟨_, rfl, k L vs H4 s4 hL hL4 rv4⟩
abbrev n_law_is_there : List Str := ["_law_one", "_law_zoom"]
theorem sc_law_is_there : FnScope n_law_is_there ["_law_one", "_law_zoom"] (defScope d_law_is_there) := ⟨rfl, rfl, rfl, by decide +kernel, rfl, by decide +kernel, by decide +kernel⟩
theorem ok_law_is_there (T : Top w K mg) : Has prg w K mg base CX0 1 (He.ga K "_law_is_there") ["_law_one", "_law_zoom"] spThereL := by
  obtain ⟨fd, F⟩ := T.F_law_is_there
  refine ⟨fd, F.ok (k := 0) sc_law_is_there (fun _ _ _ _ h => sp2_len h) (fun cdv A outer s H vs Q E hr h => ?_), F.bindsN (fun _ _ _ _ _ _ us hl => match us, hl with | [_, _], _ => rfl), F.kp⟩
  obtain ⟨v0, v1, rfl, h⟩ := h
  refine ⟨_, PSs.nox (pss_one (ps_ret (pe_chain op_le op_lt (pe_ix ix_tup (pv 0) pe_int (fun _ _ => rfl)) (pv 1) (pe_op op_add (pe_ix ix_tup (pv 0) pe_int (fun _ _ => rfl)) (pe_callB call_len (by rfl) T.b_len (by decide +kernel) (pa_cons (pe_ix ix_tup (pv 0) pe_int (fun _ _ => rfl)) pa_nil)))))), ?_⟩
  obtain ⟨r, n, rv, rfl, q⟩ := h
  obtain ⟨t, u, rfl, ht, hu⟩ := cl_parts rv
  refine ⟨_, rfl, t, _, _, _, rfl, rfl, SqT.of ht, rfl, _, rfl, _, _, rfl, rfl, _, rfl, ?_⟩
  refine ite2 (fun h0 => ?_) (fun h0 => ?_)
  · refine ⟨_, rfl, t, _, _, _, rfl, rfl, SqT.of ht, rfl, _, rfl, t, _, _, _, rfl, rfl, SqT.of ht, rfl, _, r.sizes.length, rfl, .inr ⟨_, SqT.of hu, by rw [List.length_map]⟩, _, _, rfl, rfl, _, _, rfl, rfl, ?_⟩
    unfold isThere at q
    rw [h0, Bool.true_and] at q
    exact q
  · unfold isThere at q
    rw [Bool.eq_false_iff.mpr h0, Bool.false_and] at q
    exact q
abbrev n_law_pixel : List Str := ["_law_lore_here", "_law_zoom"]
theorem sc_law_pixel : FnScope n_law_pixel ["_law_lore_here", "_law_zoom"] (defScope d_law_pixel) := ⟨rfl, rfl, rfl, by decide +kernel, rfl, by decide +kernel, by decide +kernel⟩
theorem ok_law_pixel (T : Top w K mg) : Has prg w K mg base CX0 1 (He.ga K "_law_pixel") ["_law_lore_here", "_law_zoom"] spPixelL := by
  obtain ⟨fd, F⟩ := T.F_law_pixel
  refine ⟨fd, F.ok (k := 0) sc_law_pixel (fun _ _ _ _ h => sp2_len h) (fun cdv A outer s H vs Q E hr h => ?_), F.bindsN (fun _ _ _ _ _ _ us hl => match us, hl with | [_, _], _ => rfl), F.kp⟩
  obtain ⟨v0, v1, rfl, h⟩ := h
  refine ⟨_, PSs.nox (pss_one (ps_ret (pe_ix ix_list (pe_lst (pa_cons pe_int (pa_cons pe_int (pa_cons pe_int (pa_cons pe_int (pa_cons pe_int pa_nil)))))) (pe_op op_sub (pe_op op_sub (pe_dget (hu_of hr) (pv 0) pe_str (fun _ _ => rfl)) pe_int) (pv 1)) (fun _ _ => rfl)))), ?_⟩
  obtain ⟨lo, n, ⟨d, B, F', L, rfl, h1, h2, h3, h4⟩, hz5, hn0, hn1, rfl, q⟩ := h
  refine ⟨(by show 5 ≤ sizeLine; decide), fun p hp => ?_⟩
  have s1 := same_new (o := .lst [V.int 1, V.int 2, V.int 4, V.int 8, V.int 16]) hp
  exact ⟨_, rfl, d, _, rfl, lg_zooms (s1 _ _ h1), _, _, rfl, rfl, _, rfl, _, _, rfl, rfl, p, _, _, _, rfl, rfl, SqL.of upd_same, (pix_at hn0 hn1 hz5).1, q _ s1⟩
abbrev n_law_half : List Str := ["_law_lore_here", "_law_i", "_law_letters", "_law_zoom", "_law_one"]
theorem sc_law_half : FnScope n_law_half ["_law_lore_here", "_law_i", "_law_letters", "_law_zoom"] (defScope d_law_half) := ⟨rfl, rfl, rfl, by decide +kernel, rfl, by decide +kernel, by decide +kernel⟩
theorem ok_law_half (T : Top w K mg) : Has prg w K mg base CX0 2 (He.ga K "_law_half") ["_law_lore_here", "_law_i", "_law_letters", "_law_zoom"] spHalfL := by
  obtain ⟨fd, F⟩ := T.F_law_half
  obtain ⟨fd_law_pixel, G_law_pixel, b_law_pixel, k_law_pixel⟩ := ok_law_pixel (base := base) T
  refine ⟨fd, F.ok (k := 1) sc_law_half (fun _ _ _ _ h => sp4_len h) (fun cdv A outer s H vs Q E hr h => ?_), F.bindsN (fun _ _ _ _ _ _ us hl => match us, hl with | [_, _, _, _], _ => rfl), F.kp⟩
  obtain ⟨v0, v1, v2, v3, rfl, h⟩ := h
  refine ⟨_, PSs.nox (pss_cons (ps_set (i := 4) sc_law_half.nd rfl (Or.inl rfl) (pe_ix ix_list (pe_dget (hu_of hr) (pv 0) pe_str (fun _ _ => rfl)) (pv 1) (fun _ _ => rfl)))
    (pss_one (ps_ret (pe_op op_mul (pe_op op_mul (pv 2) (pe_ix ix_tup (pe_ix ix_tup (pv 4) pe_int (fun _ _ => rfl)) (pe_op op_sub (pv 3) (pe_ix ix_tup (pv 4) pe_int (fun _ _ => rfl))) (fun _ _ => rfl))) (pe_call G_law_pixel (hr.mono (by decide)) (by rfl) T.g_law_pixel k_law_pixel b_law_pixel .nil pass0 (pa_cons (pv 0) (pa_cons (pv 3) pa_nil))))))), ?_⟩
  obtain ⟨lo, i, r, m, n, LA, hz5, rfl, hr1, rfl, hm0, hm1, rfl, hn0, hn1, hth, hsz, q⟩ := h
  obtain ⟨d, B, F', L, rfl, h1, h2, h3, h4⟩ := id LA
  obtain ⟨vs, v, hL, hv, rv⟩ := h4.get hr1
  obtain ⟨t, u, rfl, ht, hu⟩ := cl_parts rv
  obtain ⟨sz1, sz2, sz3⟩ := size_at hth
  have sz4 := sizes_rng hsz sz3
  have px := (pix_at hn0 hn1 hz5).2
  refine ⟨_, rfl, d, _, rfl, lg_classes h1, _, rfl, L, _, _, _, rfl, rfl, SqL.of hL, atI_nat hv, ?_⟩
  refine ⟨_, rfl, _, rfl, t, _, _, _, rfl, rfl, SqT.of ht, rfl, _, rfl, _, rfl, t, _, _, _, rfl, rfl, SqT.of ht, rfl, _, _, rfl, rfl, u, _, _, _, rfl, rfl, SqT.of hu, at_of (j := (n - r.first).toNat) (by omega) sz1, _, _, rfl, rfl, .inl ⟨by omega, by omega⟩, ?_⟩
  exact ⟨_, rfl, _, rfl, _, _, rfl, lo, n, LA, hz5, hn0, hn1, rfl, fun H' s' => ⟨_, _, rfl, rfl, .inr ⟨by omega, by omega⟩, q H' s'⟩⟩
end
end SK
set_option maxHeartbeats 4000000
namespace SL
open PySem PySem.Spec PyProof.Rows L2
def spDistL : Sp := sp3 fun a b c H Q _ => ∃ (p : Addr) (f : Nat) (lo : Lore) (i j : Nat) (r q : Row), a = .ref p ∧ Pt p (f + 5) H ∧ LoreAt H b lo ∧ 1 ≤ lo.zooms ∧ lo.zooms ≤ 5 ∧ RowsOk lo.zooms lo.rows ∧ Rv H c (pairD (i, j)) ∧ lo.rows[i]? = some r ∧ lo.rows[j]? = some q ∧
  ∀ (n : Int) (H' : Hp), 1 ≤ n → n ≤ 9999 → Pt p f H' → Kp p H H' → Q (.int n) H'
def zmF (r q : Row) (k : Nat) : Option V := if (isThere r (0 + (k : Int)) && isThere q (0 + (k : Int))) = true then some (V.int (0 + (k : Int))) else none
theorem clampB (x : Int) : 1 ≤ (if (if x < 9999 then x else 9999) > 1 then (if x < 9999 then x else 9999) else 1) ∧ (if (if x < 9999 then x else 9999) > 1 then (if x < 9999 then x else 9999) else 1) ≤ 9999 := by
  split <;> split <;> omega
end SL
namespace SK
open PySem PySem.Spec PyProof.Rows L2 SL
section
variable {w : World} {K : PySem.W.Frag} {mg : Str → Option Value} {base : Heap}
abbrev n_law_distance : List Str := ["_law_pot_here", "_law_lore_here", "_law_pair_here", "_law_zooms", "_law_zoom", "_law_found", "_law_one", "_law_other"]
theorem sc_law_distance : FnScope n_law_distance ["_law_pot_here", "_law_lore_here", "_law_pair_here"] (defScope d_law_distance) := ⟨rfl, rfl, rfl, by decide +kernel, rfl, by decide +kernel, by decide +kernel⟩
theorem ok_law_distance (T : Top w K mg) : Has prg w K mg base CX0 3 (He.ga K "_law_distance") ["_law_pot_here", "_law_lore_here", "_law_pair_here"] spDistL := by
  obtain ⟨fd, F⟩ := T.F_law_distance
  obtain ⟨fd_law_is_there, G_law_is_there, b_law_is_there, k_law_is_there⟩ := ok_law_is_there (base := base) T
  obtain ⟨fd_law_take, G_law_take, b_law_take, k_law_take⟩ := ok_law_take (base := base) T
  obtain ⟨fd_law_of, G_law_of, b_law_of, k_law_of⟩ := ok_law_of (base := base) T
  obtain ⟨fd_law_half, G_law_half, b_law_half, k_law_half⟩ := ok_law_half (base := base) T
  refine ⟨fd, F.ok (k := 2) sc_law_distance (fun _ _ _ _ h => sp3_len h) (fun cdv A outer s H vs Q E hr h => ?_), F.bindsN (fun _ _ _ _ _ _ us hl => match us, hl with | [_, _, _], _ => rfl), F.kp⟩
  obtain ⟨v0, v1, v2, rfl, h⟩ := h
  refine ⟨_, PSs.nox (pss_cons (ps_asg (pe_tup (pa_cons (pe_ix ix_list (pe_dget (hu_of hr) (pv 1) pe_str (fun _ _ => rfl)) (pe_ix ix_tup (pv 2) pe_int (fun _ _ => rfl)) (fun _ _ => rfl)) (pa_cons (pe_ix ix_list (pe_dget (hu_of hr) (pv 1) pe_str (fun _ _ => rfl)) (pe_ix ix_tup (pv 2) pe_int (fun _ _ => rfl)) (fun _ _ => rfl)) pa_nil))) (pg_tup rfl (pgs_cons (pg_name (i := 6) sc_law_distance.nd rfl (Or.inr rfl)) (pgs_cons (pg_name (i := 7) sc_law_distance.nd rfl (Or.inr rfl)) pgs_nil))))
    (pss_cons (ps_setLc (i := 3) (own := [("_law_zoom", 4)]) (g := gName 4) (by rfl) sc_law_distance.nd rfl rfl (sw_true rfl rfl rfl (by decide +kernel)) (pi_range1 (by rfl) T.b_range (pa_cons (pe_dget (hu_of hr) (pv 1) pe_str (fun _ _ => rfl)) pa_nil)) (blkOk_by (N := n_law_distance) (sc := defScope d_law_distance) (own := [("_law_zoom", 4)]) (by decide +kernel)) (fun _ _ _ _ _ => (pg_name (i := 4) sc_law_distance.nd rfl (Or.inl rfl) (.inr rfl))) (fun _ _ _ _ _ => (pts_one (PW.pt (pw_and (pt_val (pe_call G_law_is_there (hr.mono (by decide)) (by rfl) T.g_law_is_there k_law_is_there b_law_is_there .nil pass0 (pa_cons (pv 6) (pa_cons (pv 4) pa_nil)))) (pw_and1 (pt_val (pe_call G_law_is_there (hr.mono (by decide)) (by rfl) T.g_law_is_there k_law_is_there b_law_is_there .nil pass0 (pa_cons (pv 7) (pa_cons (pv 4) pa_nil))))))))) (fun _ _ _ _ _ => (pv 4)))
    (pss_cons (ps_if (PW.pt (pw_or (pt_cmpR (op_eqNil hr.units) (pv 3) (pe_lst pa_nil) (nomark _)) (pw_or1 (pt_cmpR op_eq (pe_call G_law_take (hr.mono (by decide)) (by rfl) T.g_law_take k_law_take b_law_take .nil pass0 (pa_cons (pv 0) (pa_cons pe_int pa_nil))) pe_int (nomark _))))) (pss_one (ps_ret (pe_op op_add pe_int (pe_call G_law_take (hr.mono (by decide)) (by rfl) T.g_law_take k_law_take b_law_take .nil pass0 (pa_cons (pv 0) (pa_cons (pe_call G_law_of (hr.mono (by decide)) (by rfl) T.g_law_of k_law_of b_law_of .nil pass0 (pa_cons (pv 0) (pa_cons (pe_lst (pa_cons pe_int (pa_cons pe_int (pa_cons pe_int pa_nil)))) pa_nil))) pa_nil)))))) pss_nil)
    (pss_cons (ps_set (i := 4) sc_law_distance.nd rfl (Or.inl rfl) (pe_call G_law_of (hr.mono (by decide)) (by rfl) T.g_law_of k_law_of b_law_of .nil pass0 (pa_cons (pv 0) (pa_cons (pv 3) pa_nil))))
    (pss_cons (ps_set (i := 5) sc_law_distance.nd rfl (Or.inl rfl) (pe_op op_add (pe_call G_law_half (hr.mono (by decide)) (by rfl) T.g_law_half k_law_half b_law_half .nil pass0 (pa_cons (pv 1) (pa_cons (pe_ix ix_tup (pv 2) pe_int (fun _ _ => rfl)) (pa_cons (pe_ix ix_tup (pv 6) pe_int (fun _ _ => rfl)) (pa_cons (pv 4) pa_nil))))) (pe_call G_law_half (hr.mono (by decide)) (by rfl) T.g_law_half k_law_half b_law_half .nil pass0 (pa_cons (pv 1) (pa_cons (pe_ix ix_tup (pv 2) pe_int (fun _ _ => rfl)) (pa_cons (pe_ix ix_tup (pv 7) pe_int (fun _ _ => rfl)) (pa_cons (pv 4) pa_nil)))))))
    (pss_one (ps_ret (pe_callB (call_max2 (by rfl)) (by rfl) T.b_max (by decide +kernel) (pa_cons pe_int (pa_cons (pe_callB (call_min2 (by rfl)) (by rfl) T.b_min (by decide +kernel) (pa_cons pe_int (pa_cons (pe_callTy call_int1 (by rfl) T.b_int boot_int (pa_cons (pe_op op_add (pv 5) (pe_call G_law_of (hr.mono (by decide)) (by rfl) T.g_law_of k_law_of b_law_of .nil pass0 (pa_cons (pv 0) (pa_cons (pe_lst (pa_cons pe_int (pa_cons (pe_un un_neg pe_int) (pa_cons pe_int (pa_cons pe_int (pa_cons (pe_call G_law_take (hr.mono (by decide)) (by rfl) T.g_law_take k_law_take b_law_take .nil pass0 (pa_cons (pv 0) (pa_cons pe_int pa_nil))) pa_nil)))))) pa_nil)))) pa_nil)) pa_nil))) pa_nil)))))))))), ?_⟩
  obtain ⟨p, f, lo, i, j, r, q, rfl, hp, LA, hz1, hz5, ok, rvp, hri, hrj, k⟩ := h
  obtain ⟨d, B, F', L, rfl, h1, h2, h3, h4⟩ := id LA
  obtain ⟨t, rfl, ht⟩ := pair_parts rvp
  obtain ⟨vs, vi, hL, hvi, rvi⟩ := h4.get hri
  obtain ⟨vs', vj, hL', hvj, rvj⟩ := h4.get hrj
  rw [hL] at hL'
  cases hL'
  obtain ⟨ti, ui, rfl, hti, hui⟩ := cl_parts rvi
  obtain ⟨tj, uj, rfl, htj, huj⟩ := cl_parts rvj
  refine ⟨_, rfl, d, _, rfl, lg_classes h1, _, rfl, t, _, _, _, rfl, rfl, SqT.of ht, rfl, L, _, _, _, rfl, rfl, SqL.of hL, atI_nat hvi, _, rfl, d, _, rfl, lg_classes h1, _, rfl, t, _, _, _, rfl, rfl, SqT.of ht, rfl, L, _, _, _, rfl, rfl, SqL.of hL, atI_nat hvj, (by show 2 ≤ sizeLine; decide), fun q1 hq1 => ?_⟩
  have s1 := same_new (o := .tup [V.ref ti, V.ref tj]) hq1
  refine ⟨q1, _, rfl, SqT.of upd_same, rfl, _, _, rfl, _, _, rfl, rfl, ?_⟩
  have hp1 := hp.same s1
  have LA1 := LA.same s1
  have rvi1 := rvi.same s1
  have rvj1 := rvj.same s1
  have h11 := s1 _ _ h1
  have hti1 := s1 _ _ hti
  have htj1 := s1 _ _ htj
  have ht1 := s1 _ _ ht
  generalize upd H q1 (.tup [V.ref ti, V.ref tj]) = H1 at s1 hp1 LA1 rvi1 rvj1 h11 hti1 htj1 ht1 ⊢
  refine ⟨_, rfl, d, _, rfl, lg_zooms h11, _, rfl, by omega, by omega, fun D hD => ?_⟩
  refine lc_fm (walk_range (lo := 0) (n := lo.zooms.toNat)) (zmF r q) hD (by rw [sizeLine_eq]; omega) (fun _ _ => trivial) ?_ ?_
  · rintro n x H2 H3 Ky Kn hn s2 ⟨rfl, rfl⟩ ky kn
    refine ⟨rfl, _, rfl, _, rfl, _, _, rfl, r, _, rvi1.same s2, rfl, _, rfl, ?_⟩
    refine ite2 (fun h0 => ?_) (fun h0 => ?_)
    · refine ⟨_, rfl, _, rfl, _, _, rfl, q, _, rvj1.same s2, rfl, _, rfl, ?_⟩
      refine ite2 (fun h0' => ?_) (fun h0' => ?_)
      · refine ⟨_, rfl, ky _ _ ?_ (Same.refl _)⟩
        unfold zmF
        rw [h0, h0']
        rfl
      · refine kn _ ?_ (Same.refl _)
        unfold zmF
        rw [h0, Bool.true_and, if_neg h0']
    · refine kn _ ?_ (Same.refl _)
      unfold zmF
      rw [Bool.eq_false_iff.mpr h0, Bool.false_and]
      rfl
  intro H2 s2 hD2
  have nD : D ≠ p := hp1.ne hD
  have hp2 := hp1.same s2
  have kp2 : Kp p H H2 := Kp.of (s1.trans s2)
  have hzm : ∀ x ∈ (List.range lo.zooms.toNat).filterMap (zmF r q), ∃ n : Int, x = .int n ∧ 0 ≤ n ∧ n < lo.zooms ∧ isThere r n = true ∧ isThere q n = true := fun x hx => by
    obtain ⟨n, hn, e⟩ := List.mem_filterMap.mp hx
    rw [List.mem_range] at hn
    unfold zmF at e
    split at e
    · rename_i hc
      rw [Bool.and_eq_true] at hc
      exact ⟨_, (Option.some.inj e).symm, by omega, by omega, hc.1, hc.2⟩
    · cases e
  have hzl := fm_len (zmF r q) lo.zooms.toNat
  generalize (List.range lo.zooms.toNat).filterMap (zmF r q) = zs at hD2 hzm hzl
  refine ⟨_, rfl, (by show 0 ≤ sizeLine; decide), fun e0 he0 => ⟨D, e0, zs, rfl, rfl, SqL.of (same_new he0 _ _ hD2), upd_same, _, rfl, ?_⟩⟩
  have s3 := same_new (o := .lst []) he0
  have hp3 := hp2.same s3
  have kp3 := kp2.trans (Kp.of s3)
  have hD3 := s3 _ _ hD2
  have LA3 := (LA1.same s2).same s3
  have hti3 := s3 _ _ (s2 _ _ hti1)
  have htj3 := s3 _ _ (s2 _ _ htj1)
  have ht3 := s3 _ _ (s2 _ _ ht1)
  generalize upd H2 e0 (.lst []) = H3 at s3 hp3 kp3 hD3 LA3 hti3 htj3 ht3 ⊢
  cases hzs : zs.isEmpty with
  | true =>
    refine ⟨_, rfl, _, rfl, (by show 3 ≤ sizeLine; decide), fun a1 ha1 => ?_⟩
    have s5 := same_new (o := .lst [V.int 20, V.int 400, V.int 9999]) ha1
    refine of_q (hp3.same s5) upd_same (hp3.ne ha1) (by show 0 < 3; decide) (by show 3 ≤ 1000000; decide) fun x H6 hx hp6 k6 => ?_
    obtain ⟨y, rfl, hy1, hy2⟩ : ∃ y : Int, x = .int y ∧ 1 ≤ y ∧ y ≤ 9999 := by
      rcases mem3 hx with rfl | rfl | rfl <;> exact ⟨_, rfl, by decide, by decide⟩
    refine take_q hp6 (by omega) (by omega) fun z H7 z0 z1 hp7 k7 => ?_
    exact ⟨_, _, rfl, rfl, k _ _ (by omega) (by omega) (hp7.mono (by omega)) (((kp3.trans (Kp.of s5)).trans k6).trans k7)⟩
  | false =>
    refine ⟨_, rfl, take_q hp3 (by decide) (by decide) fun c H4 c0 c1 hp4 k4 => ?_⟩
    have kp4 := kp3.trans k4
    refine ⟨rfl, _, rfl, ?_⟩
    refine ite2 (fun h0 => ?_) (fun h0 => ?_)
    · refine ⟨_, rfl, _, rfl, (by show 3 ≤ sizeLine; decide), fun a1 ha1 => ?_⟩
      have s5 := same_new (o := .lst [V.int 20, V.int 400, V.int 9999]) ha1
      refine of_q (hp4.same s5) upd_same (hp4.ne ha1) (by show 0 < 3; decide) (by show 3 ≤ 1000000; decide) fun x H6 hx hp6 k6 => ?_
      obtain ⟨y, rfl, hy1, hy2⟩ : ∃ y : Int, x = .int y ∧ 1 ≤ y ∧ y ≤ 9999 := by
        rcases mem3 hx with rfl | rfl | rfl <;> exact ⟨_, rfl, by decide, by decide⟩
      refine take_q hp6 (by omega) (by omega) fun z H7 z0 z1 hp7 k7 => ?_
      exact ⟨_, _, rfl, rfl, k _ _ (by omega) (by omega) (hp7.mono (by omega)) (((kp4.trans (Kp.of s5)).trans k6).trans k7)⟩
    · have hD4 := k4 _ _ nD hD3
      have hz0 : 0 < zs.length := by
        cases zs with
        | nil => cases hzs
        | cons a b => simp
      refine ⟨_, rfl, _, rfl, of_q hp4 hD4 nD hz0 (by omega) fun x H5 hx hp5 k5 => ?_⟩
      obtain ⟨n, rfl, hn0, hn1, hni, hnj⟩ := hzm x hx
      have LA4 := LA3.kp hp3 k4
      have LA5 := LA4.kp hp4 k5
      have tk5 := (hp3.tk k4).trans (hp4.tk k5)
      have kp5 := kp4.trans k5
      have oki := rowOk_iff.mp (ok.ok r (List.mem_of_getElem? hri))
      have okj := rowOk_iff.mp (ok.ok q (List.mem_of_getElem? hrj))
      obtain ⟨_, _, oi3, _, oi5, oi6, oi7, oi8⟩ := oki
      obtain ⟨_, _, oj3, _, oj5, oj6, oj7, oj8⟩ := okj
      refine ⟨_, rfl, _, rfl, t, _, _, _, rfl, rfl, SqT.of (tk5 _ _ ht3), rfl, _, rfl, ti, _, _, _, rfl, rfl, SqT.of (tk5 _ _ hti3), rfl, _, rfl, _, _, _, _, rfl, lo, i, r, r.most, n, LA5, hz5, rfl, hri, rfl, by omega, by omega, rfl, hn0, hn1, hni, oi3, fun H6 s6 => ?_⟩
      have tk6 := tk5.trans (Same.tk s6)
      refine ⟨_, rfl, _, rfl, t, _, _, _, rfl, rfl, SqT.of (tk6 _ _ ht3), rfl, _, rfl, tj, _, _, _, rfl, rfl, SqT.of (tk6 _ _ htj3), rfl, _, rfl, _, _, _, _, rfl, lo, j, q, q.most, n, LA5.same s6, hz5, rfl, hrj, rfl, by omega, by omega, rfl, hn0, hn1, hnj, oj3, fun H7 s7 => ?_⟩
      refine ⟨_, _, rfl, rfl, ?_⟩
      have hp7 := (hp5.same s6).same s7
      refine ⟨_, rfl, _, rfl, _, rfl, _, rfl, take_q hp7 (by decide) (by decide) fun b H8 b0 b1 hp8 k8 => ?_⟩
      refine ⟨(by show 5 ≤ sizeLine; decide), fun a1 ha1 => ?_⟩
      have s9 := same_new (o := .lst [V.int 0, V.int (-1), V.int 1, V.int 0, V.int b]) ha1
      refine of_q (hp8.same s9) upd_same (hp8.ne ha1) (by show 0 < 5; decide) (by show 5 ≤ 1000000; decide) fun x H10 hx hp10 k10 => ?_
      obtain ⟨y, rfl⟩ : ∃ y : Int, x = .int y := by
        simp only [List.mem_cons, List.not_mem_nil, or_false] at hx
        rcases hx with rfl | rfl | rfl | rfl | rfl <;> exact ⟨_, rfl⟩
      refine ⟨_, _, rfl, rfl, .inl ⟨_, rfl, _, _, rfl, _, _, rfl, k _ _ (clampB _).1 (clampB _).2 (hp10.mono (by omega)) (((((kp5.trans (Kp.of s6)).trans (Kp.of s7)).trans k8).trans (Kp.of s9)).trans k10)⟩⟩
end
end SK
set_option maxHeartbeats 4000000
namespace SL
open PySem PySem.Spec PyProof.Rows L2
def spLoreL : Sp := sp4 fun a b c d H Q _ => ∃ (p : Addr) (z m s : Int) (f : Nat), a = .ref p ∧ b = .int z ∧ c = .int m ∧ d = .int s ∧ 1 ≤ z ∧ z ≤ 5 ∧ 1 ≤ m ∧ m ≤ 4 ∧ 0 ≤ s ∧ s ≤ 1000 ∧ Pt p (f + 300) H ∧
  ∀ (v : V) (lo : Lore) (H' : Hp), LoreOk lo → lo.zooms ≤ z → (lo.rows.length : Int) ≤ m → LoreAt H' v lo → Pt p f H' → Kp p H H' → Q v H'
structure LS (p d B F L : Addr) (g : Nat) (H H4 : Hp) (lo : Lore) : Prop where
  kp : Kp p H H4
  pt : Pt p g H4
  dd : H4 d = some (.dK (lgK lo.ord (.int lo.zooms) (.ref B) (.ref F) (.ref L)))
  be : ∃ vs, H4 B = some (.lst vs) ∧ RvL H4 vs (lo.beside.map pairD)
  fa : ∃ vs, H4 F = some (.lst vs) ∧ RvL H4 vs (lo.far.map farD)
  cl : ClsAt H4 L lo.rows
section
variable {p d B F L P : Addr} {g g' : Nat} {H H4 H5 : Hp} {lo : Lore}
theorem LS.at (c : LS p d B F L g H H4 lo) : LoreAt H4 (.ref d) lo := ⟨d, B, F, L, rfl, c.dd, c.be, c.fa, c.cl⟩
theorem LS.mono (c : LS p d B F L g H H4 lo) (e : g' ≤ g) : LS p d B F L g' H H4 lo := ⟨c.kp, c.pt.mono e, c.dd, c.be, c.fa, c.cl⟩
theorem LS.draw (c : LS p d B F L g H H4 lo) (k : Kp p H4 H5) (pt : Pt p g' H5) : LS p d B F L g' H H5 lo := by
  obtain ⟨v1, h2, h3⟩ := c.be
  obtain ⟨v2, h4, h5⟩ := c.fa
  exact ⟨c.kp.trans k, pt, k _ _ (c.pt.neD c.dd) c.dd, ⟨v1, k _ _ (c.pt.neT h2 h3 (tupP _)) h2, h3.tk (c.pt.tk k) (pairD_fz _)⟩, ⟨v2, k _ _ (c.pt.neT h4 h5 (tupF _)) h4, h5.tk (c.pt.tk k) (farD_fz _)⟩, c.cl.kp c.pt (c.cl.ne c.pt) k⟩
theorem LS.same (c : LS p d B F L g H H4 lo) (s : Same H4 H5) : LS p d B F L g H H5 lo := by
  obtain ⟨v1, h2, h3⟩ := c.be
  obtain ⟨v2, h4, h5⟩ := c.fa
  exact ⟨c.kp.trans (Kp.of s), c.pt.same s, s _ _ c.dd, ⟨v1, s _ _ h2, h3.same s⟩, ⟨v2, s _ _ h4, h5.same s⟩, c.cl.same s⟩
theorem LS.addB (c : LS p d B F L g H H4 lo) (hB : H B = none) (nBF : B ≠ F) (nBL : B ≠ L) {vs : List V} {v : V} {q : Nat × Nat} (hv : H4 B = some (.lst vs)) (rv : Rv H4 v (pairD q)) :
    LS p d B F L g H (upd H4 B (.lst (vs ++ [v]))) { lo with beside := lo.beside ++ [q] } := by
  obtain ⟨v1, h2, h3⟩ := c.be
  rw [hv] at h2
  cases h2
  obtain ⟨v2, h4, h5⟩ := c.fa
  obtain ⟨v3, h6, h7⟩ := c.cl
  have tk : Tk H4 (upd H4 B (.lst (vs ++ [v]))) := Tk.updL hv
  refine ⟨c.kp.put hB, c.pt.upd (c.pt.neT hv h3 (tupP _)), ?_, ⟨_, upd_same, ?_⟩, ⟨v2, by rw [upd_ne nBF.symm]; exact h4, h5.tk tk (farD_fz _)⟩, ⟨v3, by rw [upd_ne nBL.symm]; exact h6, h7.tk tk (clD_fz _)⟩⟩
  · rw [upd_ne]
    · exact c.dd
    · intro e
      have := c.dd
      rw [e, hv] at this
      cases this
  · rw [List.map_append]
    exact (h3.tk tk (pairD_fz _)).snoc (rv.tk tk rfl)
theorem LS.addF (c : LS p d B F L g H H4 lo) (hF : H F = none) (nBF : B ≠ F) (nFL : F ≠ L) {vs : List V} {v : V} {q : (Nat × Nat) × Int} (hv : H4 F = some (.lst vs)) (rv : Rv H4 v (farD q)) :
    LS p d B F L g H (upd H4 F (.lst (vs ++ [v]))) { lo with far := lo.far ++ [q] } := by
  obtain ⟨v2, h2, h3⟩ := c.fa
  rw [hv] at h2
  cases h2
  obtain ⟨v1, h4, h5⟩ := c.be
  obtain ⟨v3, h6, h7⟩ := c.cl
  have tk : Tk H4 (upd H4 F (.lst (vs ++ [v]))) := Tk.updL hv
  refine ⟨c.kp.put hF, c.pt.upd (c.pt.neT hv h3 (tupF _)), ?_, ⟨v1, by rw [upd_ne nBF]; exact h4, h5.tk tk (pairD_fz _)⟩, ⟨_, upd_same, ?_⟩, ⟨v3, by rw [upd_ne nFL.symm]; exact h6, h7.tk tk (clD_fz _)⟩⟩
  · rw [upd_ne]
    · exact c.dd
    · intro e
      have := c.dd
      rw [e, hv] at this
      cases this
  · rw [List.map_append]
    exact (h3.tk tk (farD_fz _)).snoc (rv.tk tk rfl)
structure PL (P : Addr) (vs : List V) (ds : List (Nat × Nat)) (H4 : Hp) : Prop where
  at_ : H4 P = some (.lst vs)
  rv : RvL H4 vs (ds.map pairD)
variable {vs : List V} {ds : List (Nat × Nat)}
theorem PL.draw (h : PL P vs ds H4) (hp : Pt p g H4) (k : Kp p H4 H5) : PL P vs ds H5 := ⟨k _ _ (hp.neT h.at_ h.rv (tupP _)) h.at_, h.rv.tk (hp.tk k) (pairD_fz _)⟩
theorem PL.same (h : PL P vs ds H4) (s : Same H4 H5) : PL P vs ds H5 := ⟨s _ _ h.at_, h.rv.same s⟩
theorem PL.upd {l : List V} {o : HO} (h : PL P vs ds H4) (hB : H4 B = some (.lst l)) (n : P ≠ B) : PL P vs ds (L2.upd H4 B o) := ⟨by rw [upd_ne n]; exact h.at_, h.rv.tk (Tk.updL hB) (pairD_fz _)⟩
end
theorem sub_snoc {α : Type} {l m : List α} {i : Nat} {a : α} (h : l.Sublist (m.take i)) (e : m[i]? = some a) : (l ++ [a]).Sublist (m.take (i + 1)) := by
  rw [List.take_add_one, e]
  exact h.append (List.Sublist.refl _)
theorem sub_next {α : Type} {l m : List α} {i : Nat} (h : l.Sublist (m.take i)) : l.Sublist (m.take (i + 1)) := h.trans (List.take_sublist_take_left (by omega))
theorem ifq {t : TS} {D : Ends} {σ : L2.St} {H : Hp} {p : Addr} {s0 : Int} {g : Nat} (h0 : σ[0]? = some (some (.ref p))) (h3 : σ[3]? = some (some (.int s0))) (hs : s0 ≤ 1000) (hp : Pt p (g + 1) H)
    (hn : ∀ H', Kp p H H' → Pt p g H' → D.nx σ H') (hy : ∀ H', Kp p H H' → Pt p g H' → t D σ H') :
    tIfS (tAnd (tTest (tOp (rI0 fun i j => V.bl (decide (j < i))) (tVar 3) (tC (V.int 0)))) (tTest (tOp rEq (tCall spTakeL [] E0 (tCons (tVar 0) (tCons (tVar 3) tNil))) (tC (V.int 0))))) t tNext D σ H := by
  refine ⟨_, h3, _, _, rfl, rfl, _, rfl, ?_⟩
  refine ite2 (fun c0 => ?_) (fun c0 => ?_)
  · have c0' : 0 < s0 := of_decide_eq_true c0
    refine ⟨_, h0, _, h3, take_q hp c0' (by omega) fun c H4 c0 c1 hp4 k4 => ?_⟩
    refine ⟨rfl, _, rfl, ?_⟩
    refine ite2 (fun c2 => ?_) (fun c2 => ?_)
    · exact hy H4 k4 hp4
    · exact hn H4 k4 hp4
  · exact hn H (Kp.refl _ _) (hp.mono (by omega))
end SL
namespace SK
open PySem PySem.Spec PyProof.Rows L2 SL
section
variable {w : World} {K : PySem.W.Frag} {mg : Str → Option Value} {base : Heap}
abbrev n_law_lore : List Str := ["_law_pot_here", "_law_zooms", "_law_most", "_law_share", "_law_lore_here", "_law_pair_here"]
theorem sc_law_lore : FnScope n_law_lore ["_law_pot_here", "_law_zooms", "_law_most", "_law_share"] (defScope d_law_lore) := ⟨rfl, rfl, rfl, by decide +kernel, rfl, by decide +kernel, by decide +kernel⟩
theorem ok_law_lore (T : Top w K mg) : Has prg w K mg base CX0 5 (He.ga K "_law_lore") ["_law_pot_here", "_law_zooms", "_law_most", "_law_share"] spLoreL := by
  obtain ⟨fd, F⟩ := T.F_law_lore
  obtain ⟨fd_law_take, G_law_take, b_law_take, k_law_take⟩ := ok_law_take (base := base) T
  obtain ⟨fd_law_classes, G_law_classes, b_law_classes, k_law_classes⟩ := ok_law_classes (base := base) T
  obtain ⟨fd_law_pairs, G_law_pairs, b_law_pairs, k_law_pairs⟩ := ok_law_pairs (base := base) T
  obtain ⟨fd_law_distance, G_law_distance, b_law_distance, k_law_distance⟩ := ok_law_distance (base := base) T
  refine ⟨fd, F.ok (k := 4) sc_law_lore (fun _ _ _ _ h => sp4_len h) (fun cdv A outer s H vs Q E hr h => ?_), F.bindsN (fun _ _ _ _ _ _ us hl => match us, hl with | [_, _, _, _], _ => rfl), F.kp⟩
  obtain ⟨v0, v1, v2, v3, rfl, h⟩ := h
  refine ⟨_, PSs.nox (pss_cons (ps_set (i := 4) sc_law_lore.nd rfl (Or.inl rfl) (pe_disp (pps_cons pe_str (pe_op op_add pe_int (pe_call G_law_take (hr.mono (by decide)) (by rfl) T.g_law_take k_law_take b_law_take .nil pass0 (pa_cons (pv 0) (pa_cons (pv 1) pa_nil)))) (pps_cons pe_str (pe_lst pa_nil) (pps_cons pe_str (pe_lst pa_nil) pps_nil))) (by rfl) (by rfl) (fun z => by cases z) (by decide)))
    (pss_cons (ps_dput (hu_of hr) (pv 4) pe_str (pe_call G_law_classes (hr.mono (by decide)) (by rfl) T.g_law_classes k_law_classes b_law_classes .nil pass0 (pa_cons (pv 0) (pa_cons (pe_dget (hu_of hr) (pv 4) pe_str (fun _ _ => rfl)) (pa_cons (pv 2) pa_nil)))) rfl)
    (pss_cons (ps_for PassesOwn.never rfl (pi_list (pe_call G_law_pairs (hr.mono (by decide)) (by rfl) T.g_law_pairs k_law_pairs b_law_pairs .nil pass0 (pa_cons (pe_callB call_len (by rfl) T.b_len (by decide +kernel) (pa_cons (pe_dget (hu_of hr) (pv 4) pe_str (fun _ _ => rfl)) pa_nil)) pa_nil))) (pg_name (i := 5) sc_law_lore.nd rfl (Or.inl rfl)) (pss_cons (ps_if (PW.pt (pw_and (pt_cmpR op_gt (pv 3) pe_int (nomark _)) (pw_and1 (pt_cmpR op_eq (pe_call G_law_take (hr.mono (by decide)) (by rfl) T.g_law_take k_law_take b_law_take .nil pass0 (pa_cons (pv 0) (pa_cons (pv 3) pa_nil))) pe_int (nomark _))))) (pss_one (ps_expr (pe_bm PySem.F.plainAttrs_list PySem.F.slot_list_append PySem.F.type_list_append mt_append (pe_dget (hu_of hr) (pv 4) pe_str (fun _ _ => rfl)) (pa_cons (pv 5) pa_nil)))) pss_nil)
    (pss_one (ps_if (PW.pt (pw_and (pt_cmpR op_gt (pv 3) pe_int (nomark _)) (pw_and1 (pt_cmpR op_eq (pe_call G_law_take (hr.mono (by decide)) (by rfl) T.g_law_take k_law_take b_law_take .nil pass0 (pa_cons (pv 0) (pa_cons (pv 3) pa_nil))) pe_int (nomark _))))) (pss_one (ps_expr (pe_bm PySem.F.plainAttrs_list PySem.F.slot_list_append PySem.F.type_list_append mt_append (pe_dget (hu_of hr) (pv 4) pe_str (fun _ _ => rfl)) (pa_cons (pe_tup (pa_cons (pv 5) (pa_cons (pe_call G_law_distance (hr.mono (by decide)) (by rfl) T.g_law_distance k_law_distance b_law_distance .nil pass0 (pa_cons (pv 0) (pa_cons (pv 4) (pa_cons (pv 5) pa_nil)))) pa_nil))) pa_nil)))) pss_nil))))
    (pss_one (ps_ret (pv 4)))))), ?_⟩
  obtain ⟨p, z, m, s0, f, rfl, rfl, rfl, rfl, hz1, hz5, hm1, hm4, hs0, hs1, hp, k⟩ := h
  refine fun d hd => ?_
  have s1 := same_new (o := .dK []) hd
  have hp1 := hp.same s1
  have nd : d ≠ p := hp.ne hd
  refine ⟨_, rfl, _, rfl, take_q hp1 (by omega) (by omega) fun r H2 r0 r1 hp2 k2 => ⟨_, _, rfl, rfl, (by show 0 ≤ sizeLine; decide), fun B hB => ⟨(by show 0 ≤ sizeLine; decide), fun F' hF => ?_⟩⟩⟩
  have s3 := same_new (o := .lst []) hB
  have s4 := same_new (o := .lst []) hF
  have hB4 : upd (upd H2 B (.lst [])) F' (.lst []) B = some (.lst []) := s4 _ _ upd_same
  have hF4 : upd (upd H2 B (.lst [])) F' (.lst []) F' = some (.lst []) := upd_same
  have hd2 : H2 d = some (.dK []) := k2 _ _ nd upd_same
  have hd4 := s4 _ _ (s3 _ _ hd2)
  have hp4 := (hp2.same s3).same s4
  have k4 : Kp p H (upd (upd H2 B (.lst [])) F' (.lst [])) := (((Kp.of s1).trans k2).trans (Kp.of s3)).trans (Kp.of s4)
  have hBn : H B = none := ((Kp.of s1).trans k2).free (hp2.ne hB) hB
  have hFn : H F' = none := (((Kp.of s1).trans k2).trans (Kp.of s3)).free ((hp2.same s3).ne hF) hF
  have nBF : B ≠ F' := ne_of_none (show upd H2 B (.lst []) B = some (.lst []) from upd_same) hF
  have ndB : d ≠ B := ne_of_none hd2 hB
  have ndF : d ≠ F' := ne_of_none (s3 _ _ hd2) hF
  generalize upd (upd H2 B (.lst [])) F' (.lst []) = H4 at hB4 hF4 hd4 hp4 k4 ⊢
  refine ⟨hd4, [(.inr "zooms", .int (1 + r)), (.inr "beside", .ref B), (.inr "far", .ref F')], rfl, (by show 3 ≤ 15; decide), ?_⟩
  have k5 : Kp p H (upd H4 d (.dK (mergeK [] [(.inr "zooms", .int (1 + r)), (.inr "beside", .ref B), (.inr "far", .ref F')]))) := k4.put hd
  have hp5 := hp4.upd (o := .dK (mergeK [] [(.inr "zooms", .int (1 + r)), (.inr "beside", .ref B), (.inr "far", .ref F')])) nd
  have hd5 : upd H4 d (.dK (mergeK [] [(.inr "zooms", .int (1 + r)), (.inr "beside", .ref B), (.inr "far", .ref F')])) d = some (.dK [(.inr "zooms", .int (1 + r)), (.inr "beside", .ref B), (.inr "far", .ref F')]) := by
    rw [upd_same]
    rfl
  have hB5 : upd H4 d (.dK (mergeK [] [(.inr "zooms", .int (1 + r)), (.inr "beside", .ref B), (.inr "far", .ref F')])) B = some (.lst []) := by
    rw [upd_ne ndB.symm]
    exact hB4
  have hF5 : upd H4 d (.dK (mergeK [] [(.inr "zooms", .int (1 + r)), (.inr "beside", .ref B), (.inr "far", .ref F')])) F' = some (.lst []) := by
    rw [upd_ne ndF.symm]
    exact hF4
  generalize upd H4 d (.dK (mergeK [] [(.inr "zooms", .int (1 + r)), (.inr "beside", .ref B), (.inr "far", .ref F')])) = H5 at k5 hp5 hd5 hB5 hF5 ⊢
  obtain ⟨mn, rfl⟩ : ∃ mn : Nat, m = (mn : Int) := ⟨m.toNat, by omega⟩
  refine ⟨_, rfl, _, rfl, d, _, rfl, DGet.k (k := .inr "zooms") hd5, _, rfl, _, _, _, rfl, p, 1 + r, mn, f + 159, rfl, rfl, rfl, by omega, by omega, by omega, by omega, hp5, fun L rows H6 hr1 hr4 hro hLn nLp hcl hp6 k6 => ?_⟩
  have hd6 := k6 _ _ nd hd5
  have nBp : B ≠ p := hp2.ne hB
  have nFp : F' ≠ p := (hp2.same s3).ne hF
  have hB6 := k6 _ _ nBp hB5
  have hF6 := k6 _ _ nFp hF5
  have nBL : B ≠ L := ne_of_none hB5 hLn
  have nFL : F' ≠ L := ne_of_none hF5 hLn
  refine ⟨_, rfl, d, _, rfl, DPut.k (k := .inr "classes") hd6 (by show 3 < sizeLine; decide), ?_⟩
  have c7 : LS p d B F' L (f + 159) H (upd H6 d (.dK (putK [(.inr "zooms", .int (1 + r)), (.inr "beside", .ref B), (.inr "far", .ref F')] (.inr "classes") (.ref L)))) ⟨1 + r, rows, [], [], false⟩ := by
    obtain ⟨cvs, hc1, hc2⟩ := hcl
    have tk : Tk H6 (upd H6 d (.dK (putK [(.inr "zooms", .int (1 + r)), (.inr "beside", .ref B), (.inr "far", .ref F')] (.inr "classes") (.ref L)))) := Tk.upd fun xs e => by
      rw [hd6] at e
      cases e
    have nLd : L ≠ d := fun e => by
      rw [e, hd6] at hc1
      cases hc1
    exact ⟨(k5.trans k6).put hd, hp6.upd nd, by rw [upd_same]; rfl, ⟨[], by rw [upd_ne ndB.symm]; exact hB6, .nil⟩, ⟨[], by rw [upd_ne ndF.symm]; exact hF6, .nil⟩, ⟨cvs, by rw [upd_ne nLd]; exact hc1, hc2.tk tk (clD_fz _)⟩⟩
  generalize upd H6 d (.dK (putK [(.inr "zooms", .int (1 + r)), (.inr "beside", .ref B), (.inr "far", .ref F')] (.inr "classes") (.ref L))) = H7 at c7 ⊢
  obtain ⟨cvs, hc1, hc2⟩ := id c7.cl
  refine ⟨_, rfl, d, _, rfl, lg_classes c7.dd, _, rows.length, rfl, .inl ⟨_, SqL.of hc1, by rw [hc2.length, List.length_map]⟩, _, rfl, rows.length, rfl, by omega, fun P vs H8 s8 hPn hP8 rvP => ?_⟩
  have c8 := c7.same s8
  have pl8 : PL P vs (allPairs rows.length) H8 := ⟨hP8, rvP⟩
  have nPB : P ≠ B := by
    obtain ⟨bv, hb, _⟩ := c7.be
    exact (ne_of_none hb hPn).symm
  have nPF : P ≠ F' := by
    obtain ⟨bv, hb, _⟩ := c7.fa
    exact (ne_of_none hb hPn).symm
  have hvl : vs.length = (allPairs rows.length).length := by rw [rvP.length, List.length_map]
  have hap := allPairs_len (m := rows.length) (by omega)
  refine ⟨P, rfl, ⟨_, SqL.of hP8⟩, ?_⟩
  refine for_it (walk_list (xs := vs)) (fun i σ H4 => ∃ (be : List (Nat × Nat)) (fa : List ((Nat × Nat) × Int)) (o5 : Option V), σ = [some (.ref p), some (.int z), some (.int mn), some (.int s0), some (.ref d), o5] ∧
      LS p d B F' L (f + 8 * (10 - i)) H H4 ⟨1 + r, rows, be, fa, false⟩ ∧ PL P vs (allPairs rows.length) H4 ∧ be.Sublist ((allPairs rows.length).take i) ∧ (fa.map (·.1)).Sublist ((allPairs rows.length).take i) ∧ ∀ q ∈ fa, 1 ≤ q.2 ∧ q.2 ≤ 9999)
    ⟨[], [], none, rfl, c8.mono (by omega), pl8, List.nil_sublist _, List.nil_sublist _, fun _ h => absurd h List.not_mem_nil⟩ (fun _ _ _ _ ⟨_, _, _, _, _, pl, _⟩ => SqL.of pl.at_) ?_ ?_
  · rintro i x σ H4 H5 hi ⟨be, fa, o5, rfl, c4, pl4, sb, sf, di⟩ ⟨rfl, hx⟩
    have hi' : i < (allPairs rows.length).length := by rw [← hvl]; exact hi
    obtain ⟨pr, hpr⟩ : ∃ pr, (allPairs rows.length)[i]? = some pr := ⟨_, List.getElem?_eq_getElem hi'⟩
    have hlt := allPairs_lt (List.mem_of_getElem? hpr)
    obtain ⟨x', hx', rvx⟩ := pl4.rv.get (i := i) (d := SL.pairD pr) (by rw [List.getElem?_map, hpr]; rfl)
    rw [hx] at hx'
    cases hx'
    refine ifq (g := f + 8 * (10 - (i + 1)) + 7) rfl rfl hs1 (c4.pt.mono (by omega)) (fun H6 k6 hp6 => ?na) (fun H6 k6 hp6 => ?nb)
    case' na =>
      have rv6 : Rv H6 x (SL.pairD pr) := rvx.tk (c4.pt.tk k6) rfl
      have c6 := c4.draw k6 hp6
      have pl6 := pl4.draw c4.pt k6
      have sb6 := sub_next sb
    case' nb =>
      have rv6 : Rv H6 x (SL.pairD pr) := rvx.tk (c4.pt.tk k6) rfl
      have c6 := c4.draw k6 hp6
      have pl6 := pl4.draw c4.pt k6
      obtain ⟨bv, hb1, hb2⟩ := id c6.be
      have hbl : bv.length ≤ 10 := by
        rw [hb2.length, List.length_map]
        exact Nat.le_trans sb.length_le (Nat.le_trans (List.length_take_le _ _) (by omega))
      refine ⟨_, rfl, d, _, rfl, lg_beside c6.dd, .inl ⟨rfl, _, SqL.of hb1⟩, _, rfl, B, _, _, rfl, rfl, hb1, by rw [sizeLine_eq]; omega, ?_⟩
      have rv7 : Rv (upd H6 B (.lst (bv ++ [x]))) x (SL.pairD pr) := rv6.tk (Tk.updL hb1) rfl
      have c7 := c6.addB hBn nBF nBL hb1 rv6
      have pl7 := pl6.upd (o := .lst (bv ++ [x])) hb1 nPB
      have sb6 := sub_snoc sb hpr
      clear rv6 c6 pl6 hb2 hbl sb
      revert rv7 c7 pl7 sb6
      clear hb1
      generalize upd H6 B (.lst (bv ++ [x])) = H7
      clear k6 hp6
      clear H6
      intro rv6 c6 pl6 sb6
      revert rv6 c6 pl6 sb6
      dsimp only
      generalize be ++ [pr] = be
      intro rv6 c6 pl6 sb6
    all_goals
      refine ifq (g := f + 8 * (10 - (i + 1)) + 6) rfl rfl hs1 (c6.pt.mono (by omega)) (fun H8 k8 hp8 => ?_) (fun H8 k8 hp8 => ?_)
      · exact ⟨be, fa, _, rfl, (c6.draw k8 hp8).mono (by omega), pl6.draw c6.pt k8, sb6, sub_next sf, di⟩
      · have rv8 : Rv H8 x (SL.pairD pr) := rv6.tk (c6.pt.tk k8) rfl
        have c8 := c6.draw k8 hp8
        have pl8 := pl6.draw c6.pt k8
        obtain ⟨bv, hb1, hb2⟩ := id c8.fa
        have hbl : bv.length ≤ 10 := by
          rw [hb2.length, List.length_map]
          have := sf.length_le
          rw [List.length_map] at this
          exact Nat.le_trans this (Nat.le_trans (List.length_take_le _ _) (by omega))
        obtain ⟨ri, hri⟩ : ∃ ri, rows[pr.1]? = some ri := ⟨_, List.getElem?_eq_getElem (by omega)⟩
        obtain ⟨rj, hrj⟩ : ∃ rj, rows[pr.2]? = some rj := ⟨_, List.getElem?_eq_getElem (by omega)⟩
        refine ⟨_, rfl, d, _, rfl, lg_far c8.dd, .inl ⟨rfl, _, SqL.of hb1⟩, _, rfl, _, rfl, _, rfl, _, rfl, _, _, _, rfl, p, f + 8 * (10 - (i + 1)) + 1, _, pr.1, pr.2, ri, rj, rfl, c8.pt, c8.at, by show 1 ≤ 1 + r; omega, by show 1 + r ≤ 5; omega, hro, rv8, hri, hrj, fun n H9 hn1 hn2 hp9 k9 => ?_⟩
        have c9 := c8.draw k9 hp9
        have pl9 := pl8.draw c8.pt k9
        have rv9 : Rv H9 x (SL.pairD pr) := rv8.tk (c8.pt.tk k9) rfl
        refine ⟨(by show 2 ≤ sizeLine; decide), fun t ht => ?_⟩
        have s10 := same_new (o := .tup [x, V.int n]) ht
        have c10 := c9.same s10
        have pl10 := pl9.same s10
        have rvt : Rv (upd H9 t (.tup [x, V.int n])) (.ref t) (SL.farD (pr, n)) := .tup upd_same (.cons (rv9.same s10) (.cons (.int _) .nil))
        have hb9 := s10 _ _ (k9 _ _ (c8.pt.neT hb1 hb2 (tupF _)) hb1)
        refine ⟨F', _, _, rfl, rfl, hb9, by rw [sizeLine_eq]; omega, ?_⟩
        refine ⟨be, fa ++ [(pr, n)], _, rfl, (c10.addF hFn nBF nFL hb9 rvt).mono (by omega), pl10.upd hb9 nPF, sb6, ?_, fun q hq => ?_⟩
        · rw [List.map_append]
          exact sub_snoc sf hpr
        · rcases List.mem_append.mp hq with hq | hq
          · exact di q hq
          · rw [List.mem_singleton.mp hq]
            exact ⟨hn1, hn2⟩
  · rintro σ H4 ⟨be, fa, o5, rfl, c4, pl4, sb, sf, di⟩
    rw [hvl, List.take_length] at sb sf
    exact ⟨_, rfl, k (.ref d) ⟨1 + r, rows, be, fa, false⟩ H4 ⟨by show 1 ≤ 1 + r; omega, by show 1 + r ≤ 5; omega, hr1, by show rows.length ≤ 4; omega, hro, sb, sf, di⟩ (by show 1 + r ≤ z; omega) (by show (rows.length : Int) ≤ mn; omega) c4.at (c4.pt.mono (by omega)) c4.kp⟩
end
end SK
set_option maxHeartbeats 4000000
namespace SL
open PySem PySem.Spec PyProof.Rows L2
def spTextL : Sp := sp1 fun a H Q _ => ∃ lo, LoreAt H a lo ∧ LoreOk lo ∧ ∀ H', Same H H' → Q (.str (textOf lo)) H'
def LV (lo : Lore) (k : Nat) : List V := ((linesOf lo).take k).map fun ws => V.str (lineOf ws)
theorem LV_step {lo : Lore} {k : Nat} {ws : List Str} (h : (linesOf lo)[k]? = some ws) : LV lo k ++ [V.str (lineOf ws)] = LV lo (k + 1) := by
  unfold LV
  rw [List.take_add_one, h, List.map_append]
  rfl
theorem LV_len (lo : Lore) (k : Nat) : (LV lo k).length ≤ k := by
  unfold LV
  rw [List.length_map]
  exact List.length_take_le _ _
theorem ln_row {lo : Lore} {i : Nat} {r : Row} (h : lo.rows[i]? = some r) : (linesOf lo)[1 + i]? = some (wC r) := by
  have hi := (List.getElem?_eq_some_iff.mp h).1
  unfold linesOf
  rw [Nat.add_comm, List.getElem?_cons_succ, List.getElem?_append_left (by rw [List.length_map]; exact hi), List.getElem?_map, h]
  rfl
theorem ln_be {lo : Lore} {i : Nat} {p : Nat × Nat} (h : lo.beside[i]? = some p) : (linesOf lo)[1 + lo.rows.length + i]? = some (wB lo.rows p) := by
  have hi := (List.getElem?_eq_some_iff.mp h).1
  unfold linesOf
  rw [show 1 + lo.rows.length + i = (lo.rows.length + i) + 1 by omega, List.getElem?_cons_succ, List.getElem?_append_right (by rw [List.length_map]; omega), List.length_map, Nat.add_sub_cancel_left,
    List.getElem?_append_left (by rw [List.length_map]; exact hi), List.getElem?_map, h]
  rfl
theorem ln_fa {lo : Lore} {i : Nat} {p : (Nat × Nat) × Int} (h : lo.far[i]? = some p) : (linesOf lo)[1 + lo.rows.length + lo.beside.length + i]? = some (wF lo.rows p) := by
  unfold linesOf
  rw [show 1 + lo.rows.length + lo.beside.length + i = (lo.rows.length + (lo.beside.length + i)) + 1 by omega, List.getElem?_cons_succ, List.getElem?_append_right (by rw [List.length_map]; omega), List.length_map, Nat.add_sub_cancel_left,
    List.getElem?_append_right (by rw [List.length_map]; omega), List.length_map, Nat.add_sub_cancel_left, List.getElem?_map, h]
  rfl
theorem line_zooms (n : Int) : lineOf ["zooms", numS n] = ("zooms " : Str) ++ numS n := by
  unfold lineOf
  rw [TL.join_eq]
  show ("zooms" : Str) ++ " " ++ numS n = _
  rw [show ("zooms" : Str) ++ (" " : Str) = "zooms " by decide +kernel]
theorem lgS {n : Int} (h0 : 0 ≤ n) (h1 : n < 10 ^ 9) : n.natAbs.log2 < 1920 := Nat.lt_trans (log2_small (k := 40) (by decide) (by omega)) (by decide)
theorem sum_le {B : Nat} : ∀ {ws : List Str}, (∀ w ∈ ws, w.length ≤ B) → (ws.map (·.length)).sum ≤ ws.length * B
  | [], _ => Nat.zero_le _
  | w :: ws, h => by
    have h1 := h w (by simp)
    have h2 := sum_le (B := B) (ws := ws) fun z hz => h z (List.mem_cons_of_mem _ hz)
    rw [List.map_cons, List.sum_cons, List.length_cons, Nat.add_mul]
    omega
theorem sp_len : (" " : Str).length = 1 := by decide +kernel
theorem nl_len : ("\n" : Str).length = 1 := by decide +kernel
theorem join_ok {lo : Lore} (ok : LoreOk lo) {ws : List Str} (h : ws ∈ linesOf lo) : (ws.map (·.length)).sum + ws.length * (" " : Str).length ≤ 16777216 := by
  obtain ⟨_, h2, h3⟩ := ok.short ws h
  have := sum_le (B := 12) fun w hw => (h3 w hw).2
  rw [sp_len]
  omega
theorem join_all {lo : Lore} (ok : LoreOk lo) : (((linesOf lo).map lineOf).map (·.length)).sum + ((linesOf lo).map lineOf).length * ("\n" : Str).length ≤ 16777216 := by
  have h1 := ok.count
  have := sum_le (B := 130) (ws := (linesOf lo).map lineOf) fun w hw => by
    obtain ⟨ws, hws, rfl⟩ := List.mem_map.mp hw
    exact ok.lineLen ws hws
  rw [nl_len]
  rw [List.length_map] at this ⊢
  omega
theorem nm_at {rows : List Row} {i : Nat} (h : i < rows.length) : ((rows.map (·.name)).map V.str)[i]? = some (V.str (nmAt rows i)) := by
  rw [List.getElem?_map, List.getElem?_map, (nmAt_get h).1, (nmAt_get h).2]
  rfl
theorem far_parts {H : Hp} {v : V} {p : (Nat × Nat) × Int} (h : Rv H v (farD p)) : ∃ t t', v = .ref t ∧ H t = some (.tup [.ref t', .int p.2]) ∧ H t' = some (.tup [.int p.1.1, .int p.1.2]) := by
  unfold farD at h
  cases h with
  | tup h1 h2 =>
    cases h2 with
    | cons a1 h2 =>
      cases h2 with
      | cons a2 h2 =>
        cases h2
        cases a2
        obtain ⟨t', rfl, ht'⟩ := pair_parts a1
        exact ⟨_, t', rfl, h1, ht'⟩
theorem lc_names {K : PySem.W.Frag} {L : Addr} {cvs : List V} {rows : List Row} {g : TG} {tt : TT} {te : TE} {ow : List Nat} {σ : L2.St} {H1 : Hp} {D : Addr} {Qd : Hp → Prop} (hD : H1 D = none) (hL : H1 L = some (.lst cvs)) (rv : RvL H1 cvs (rows.map clD)) (hn : rows.length ≤ 1000)
    (hs : ∀ t (r : Row) u H (Ky : V → Hp → Prop) (Kn : Hp → Prop), Same H1 H → H t = some (.tup [.str r.name, .int r.first, .int r.least, .int r.most, .ref u]) → Ky (.str r.name) H → g (.ref t) (wipe σ ow) H fun σ2 H2 => wipe σ2 ow = wipe σ ow ∧ tt σ2 H2 fun b H3 => if b = true then te σ2 H3 Ky else Kn H3)
    (hd : ∀ H, Same H1 H → H D = some (.lst ((rows.map (·.name)).map V.str)) → Qd H) :
    ∃ W : Nat → Nat → Hp → Prop, (∃ m, W 0 m (upd H1 D (.lst []))) ∧ ∀ i m H, W i m H →
      ((Itl K L).stop i H ∧ Qd H) ∨ ((Itl K L).go i H ∧ ∃ Nx : Hp → Prop, (∀ H', Nx H' → ∃ m', m' < m ∧ W (i + 1) m' H') ∧ ∀ x H', (Itl K L).yld i H x H' → g x (wipe σ ow) H' fun σ2 H2 => wipe σ2 ow = wipe σ ow ∧ tt σ2 H2 fun b H3 =>
        if b = true then te σ2 H3 fun y H4 => ∃ acc, H4 D = some (.lst acc) ∧ acc.length < sizeLine ∧ Nx (upd H4 D (.lst (acc ++ [y]))) else Nx H3) := by
  have hl : cvs.length = rows.length := by rw [rv.length, List.length_map]
  refine lc_fm (walk_list (xs := cvs)) (fun i => some ((rows[i]?.map fun r => V.str r.name).getD .non)) hD (by rw [hl, sizeLine_eq]; omega) (fun H s => SqL.of (s _ _ hL)) ?_ ?_
  · rintro i v H H' Ky Kn hi s1 ⟨rfl, hv⟩ ky kn
    have hi' : i < rows.length := by rw [← hl]; exact hi
    have hr := List.getElem?_eq_getElem hi'
    obtain ⟨v', hv', rv'⟩ := rv.get (i := i) (d := clD rows[i]) (by rw [List.getElem?_map, hr]; rfl)
    rw [hv] at hv'
    cases hv'
    obtain ⟨t, u, rfl, ht, hu⟩ := cl_parts rv'
    refine hs t _ u H' Ky Kn s1 (s1 _ _ ht) (ky _ _ ?_ (Same.refl _))
    rw [hr]
    rfl
  · intro H s h
    refine hd H s ?_
    rw [h, fm_some, hl, map_get rows (fun r => V.str r.name), List.map_map]
    rfl
end SL
namespace SK
open PySem PySem.Spec PyProof.Rows L2 SL
section
variable {w : World} {K : PySem.W.Frag} {mg : Str → Option Value} {base : Heap}
abbrev n_law_text : List Str := ["_law_lore_here", "_law_lines", "_law_names", "_law_name_here", "_law_first", "_law_least", "_law_most", "_law_sizes_here", "_law_i", "_law_j", "_law_pair_here", "_law_distance_here", "_law_one", "_law_size"]
theorem sc_law_text : FnScope n_law_text ["_law_lore_here"] (defScope d_law_text) := ⟨rfl, rfl, rfl, by decide +kernel, rfl, by decide +kernel, by decide +kernel⟩
theorem ok_law_text (T : Top w K mg) : Has prg w K mg base CX0 1 (He.ga K "_law_text") ["_law_lore_here"] spTextL := by
  obtain ⟨fd, F⟩ := T.F_law_text
  refine ⟨fd, F.ok (k := 0) sc_law_text (fun _ _ _ _ h => sp1_len h) (fun cdv A outer s H vs Q E hr h => ?_), F.bindsN (fun _ _ _ _ _ _ us hl => match us, hl with | [_], _ => rfl), F.kp⟩
  obtain ⟨v0, rfl, h⟩ := h
  refine ⟨_, PSs.nox (pss_cons (ps_par (i := 1) (j := 2) (by rfl) sc_law_text.nd rfl rfl (by decide) rfl rfl (pa_cons (pe_lst (pa_cons (pe_op op_add_str pe_str (pe_callTy call_str_int (by rfl) T.b_str boot_str (pa_cons (pe_dget (hu_of hr) (pv 0) pe_str (fun _ _ => rfl)) pa_nil))) pa_nil)) (pa_cons (pe_lc (own := [("_law_one", 12)]) (g := gName 12) (by rfl) sc_law_text.nd (pi_list (pe_dget (hu_of hr) (pv 0) pe_str (fun _ _ => rfl))) (blkOk_by (N := n_law_text) (sc := defScope d_law_text) (own := [("_law_one", 12)]) (by decide +kernel)) (fun _ _ _ _ _ => (pg_name (i := 12) sc_law_text.nd rfl (Or.inl rfl) (.inr rfl))) (fun _ _ _ _ _ => pts_nil) (fun _ _ _ _ _ => (pe_ix (ix_tupK (K := K) rfl) (pv 12) pe_int (fun _ _ => rfl)))) pa_nil)) (by rfl))
    (pss_cons (ps_for PassesOwn.never rfl (pi_list (pe_dget (hu_of hr) (pv 0) pe_str (fun _ _ => rfl))) (pg_tup rfl (pgs_cons (pg_name (i := 3) sc_law_text.nd rfl (Or.inl rfl)) (pgs_cons (pg_name (i := 4) sc_law_text.nd rfl (Or.inl rfl)) (pgs_cons (pg_name (i := 5) sc_law_text.nd rfl (Or.inl rfl)) (pgs_cons (pg_name (i := 6) sc_law_text.nd rfl (Or.inl rfl)) (pgs_cons (pg_name (i := 7) sc_law_text.nd rfl (Or.inl rfl)) pgs_nil)))))) (pss_one (ps_expr (pe_bm PySem.F.plainAttrs_list PySem.F.slot_list_append PySem.F.type_list_append mt_append (pv 1) (pa_cons (pe_join pe_str (pe_op op_cat (pe_lst (pa_cons pe_str (pa_cons (pv 3) (pa_cons (pe_callTy call_str_int (by rfl) T.b_str boot_str (pa_cons (pv 4) pa_nil)) (pa_cons (pe_callTy call_str_int (by rfl) T.b_str boot_str (pa_cons (pv 5) pa_nil)) (pa_cons (pe_callTy call_str_int (by rfl) T.b_str boot_str (pa_cons (pv 6) pa_nil)) pa_nil)))))) (pe_lc (own := [("_law_size", 13)]) (g := gName 13) (by rfl) sc_law_text.nd (pi_tup (pv 7)) (blkOk_by (N := n_law_text) (sc := defScope d_law_text) (own := [("_law_size", 13)]) (by decide +kernel)) (fun _ _ _ _ _ => (pg_name (i := 13) sc_law_text.nd rfl (Or.inl rfl) (.inr rfl))) (fun _ _ _ _ _ => pts_nil) (fun _ _ _ _ _ => (pe_callTy call_str_int (by rfl) T.b_str boot_str (pa_cons (pv 13) pa_nil)))))) pa_nil)))))
    (pss_cons (ps_for PassesOwn.never rfl (pi_list (pe_dget (hu_of hr) (pv 0) pe_str (fun _ _ => rfl))) (pg_tup rfl (pgs_cons (pg_name (i := 8) sc_law_text.nd rfl (Or.inl rfl)) (pgs_cons (pg_name (i := 9) sc_law_text.nd rfl (Or.inl rfl)) pgs_nil))) (pss_one (ps_expr (pe_bm PySem.F.plainAttrs_list PySem.F.slot_list_append PySem.F.type_list_append mt_append (pv 1) (pa_cons (pe_join pe_str (pe_lst (pa_cons pe_str (pa_cons (pe_ix ix_list (pv 2) (pv 8) (fun _ _ => rfl)) (pa_cons (pe_ix ix_list (pv 2) (pv 9) (fun _ _ => rfl)) pa_nil))))) pa_nil)))))
    (pss_cons (ps_for PassesOwn.never rfl (pi_list (pe_dget (hu_of hr) (pv 0) pe_str (fun _ _ => rfl))) (pg_tup rfl (pgs_cons (pg_name (i := 10) sc_law_text.nd rfl (Or.inl rfl)) (pgs_cons (pg_name (i := 11) sc_law_text.nd rfl (Or.inl rfl)) pgs_nil))) (pss_one (ps_expr (pe_bm PySem.F.plainAttrs_list PySem.F.slot_list_append PySem.F.type_list_append mt_append (pv 1) (pa_cons (pe_join pe_str (pe_lst (pa_cons pe_str (pa_cons (pe_ix ix_list (pv 2) (pe_ix ix_tup (pv 10) pe_int (fun _ _ => rfl)) (fun _ _ => rfl)) (pa_cons (pe_ix ix_list (pv 2) (pe_ix ix_tup (pv 10) pe_int (fun _ _ => rfl)) (fun _ _ => rfl)) (pa_cons (pe_callTy call_str_int (by rfl) T.b_str boot_str (pa_cons (pv 11) pa_nil)) pa_nil)))))) pa_nil)))))
    (pss_one (ps_ret (pe_join pe_str (pv 1)))))))), ?_⟩
  obtain ⟨lo, LA, ok, k⟩ := h
  obtain ⟨d, B, F', L, rfl, h1, ⟨bvs, hB, rvB⟩, ⟨fvs, hF, rvF⟩, ⟨cvs, hL, rvL⟩⟩ := LA
  have hz1 := ok.z1
  have hz5 := ok.z5
  have hr4 := ok.r4
  have hcl : cvs.length = lo.rows.length := by rw [rvL.length, List.length_map]
  have hbl : bvs.length = lo.beside.length := by rw [rvB.length, List.length_map]
  have hfl : fvs.length = lo.far.length := by rw [rvF.length, List.length_map]
  have hcount := ok.count
  have hct : (linesOf lo).length = 1 + lo.rows.length + lo.beside.length + lo.far.length := by
    simp only [SL.linesOf, List.length_cons, List.length_append, List.length_map]
    omega
  have zl := (num_ok (n := lo.zooms) (by omega) (by omega)).2.2
  refine ⟨_, rfl, d, _, rfl, lg_zooms h1, _, rfl, lgS (by omega) (by omega), _, _, rfl, rfl, Nat.le_trans (show 6 + (numS lo.zooms).length ≤ 1000 by omega) (by decide), (by show 1 ≤ sizeLine; decide), fun W hW => ?_⟩
  have s1 := same_new (o := .lst [V.str (("zooms " : Str) ++ numS lo.zooms)]) hW
  refine ⟨_, rfl, d, _, rfl, lg_classes (s1 _ _ h1), L, rfl, ⟨_, SqL.of (s1 _ _ hL)⟩, fun N hN => ?_⟩
  refine lc_names hN (s1 _ _ hL) (rvL.same s1) (by omega) (fun t r u H2 Ky Kn s2 ht ky => ⟨rfl, _, rfl, t, _, _, _, rfl, rfl, SqT.of ht, rfl, ky⟩) (fun H2 s2 hN2 => ?_)
  have hW2 := s2 _ _ (show upd H W (.lst [V.str (("zooms " : Str) ++ numS lo.zooms)]) W = _ from upd_same)
  have hW2 : H2 W = some (.lst (LV lo 1)) := by
    rw [hW2, ← line_zooms]
    rfl
  have nWN : W ≠ N := ne_of_none (show upd H W (.lst [V.str (("zooms " : Str) ++ numS lo.zooms)]) W = _ from upd_same) hN
  have hNn : H N = none := s1.free hN
  have s02 := s1.trans s2
  refine ⟨_, _, rfl, ?_⟩
  refine ⟨_, rfl, d, _, rfl, lg_classes (s02 _ _ h1), L, rfl, ⟨_, SqL.of (s02 _ _ hL)⟩, ?_⟩
  refine for_it (walk_list (xs := cvs)) (fun i σ H4 => ∃ (o3 o4 o5 o6 o7 o8 o9 o10 o11 o12 o13 : Option V), σ = [some (.ref d), some (.ref W), some (.ref N), o3, o4, o5, o6, o7, o8, o9, o10, o11, o12, o13] ∧
      Same H H4 ∧ H4 W = some (.lst (LV lo (1 + i))) ∧ H4 N = some (.lst ((lo.rows.map (·.name)).map V.str)))
    ⟨_, _, _, _, _, _, _, _, _, _, _, rfl, s02, hW2, hN2⟩ (fun _ _ _ _ ⟨_, _, _, _, _, _, _, _, _, _, _, _, s4, _⟩ => SqL.of (s4 _ _ hL)) ?_ ?_
  · rintro i x σ H4 H5 hi ⟨o3, o4, o5, o6, o7, o8, o9, o10, o11, o12, o13, rfl, s4, hW4, hN4⟩ ⟨rfl, hx⟩
    have hi' : i < lo.rows.length := by rw [← hcl]; exact hi
    have hr := List.getElem?_eq_getElem hi'
    obtain ⟨x', hx', rvx⟩ := rvL.get (i := i) (d := clD lo.rows[i]) (by rw [List.getElem?_map, hr]; rfl)
    rw [hx] at hx'
    cases hx'
    generalize lo.rows[i] = r at hr rvx
    have hmem := List.mem_of_getElem? hr
    obtain ⟨r1, r2, r3, r4, r5, r6, r7, r8⟩ := rowOk_iff.mp (ok.rows.ok r hmem)
    obtain ⟨t, u, rfl, ht, hu⟩ := cl_parts (rvx.same s4)
    have hsl := sizesOk_pos r3
    refine ⟨t, _, rfl, SqT.of ht, rfl, _, _, rfl, _, _, rfl, _, _, rfl, _, _, rfl, _, _, rfl, rfl, ?_⟩
    refine ⟨_, rfl, .inl ⟨rfl, _, SqL.of hW4⟩, ⟨_, rfl⟩, _, rfl, _, rfl, _, rfl, lgS (by omega) (by omega), _, rfl, _, rfl, lgS (by omega) (by omega), _, rfl, _, rfl, lgS (by omega) (by omega), (by show 5 ≤ sizeLine; decide), fun q1 hq1 => ?_⟩
    have s5 := same_new (o := .lst [V.str "class", V.str r.name, V.str (numS r.first), V.str (numS r.least), V.str (numS r.most)]) hq1
    refine ⟨_, rfl, u, rfl, ⟨_, SqT.of (s5 _ _ hu)⟩, fun D hD => ?_⟩
    refine lc_fm (walk_tup (xs := r.sizes.map V.int)) (fun i => some ((r.sizes[i]?.map fun n => V.str (numS n)).getD .non)) hD (by rw [List.length_map, sizeLine_eq]; omega) (fun H6 s6 => SqT.of (s6 _ _ (s5 _ _ hu))) ?_ ?_
    · rintro j v H6 H7 Ky Kn hj s6 ⟨rfl, hv⟩ ky kn
      rw [List.getElem?_map] at hv
      obtain ⟨n, hn, rfl⟩ := Option.map_eq_some_iff.mp hv
      have hn2 := sizes_rng r3 (List.mem_of_getElem? hn)
      refine ⟨rfl, _, rfl, _, rfl, lgS (by omega) (by omega), ky _ _ ?_ (Same.refl _)⟩
      rw [hn]
      rfl
    intro H6 s6 hD6
    rw [fm_some, List.length_map, map_get r.sizes (fun n => V.str (numS n))] at hD6
    have hq6 := s6 _ _ (show upd H5 q1 (.lst [V.str "class", V.str r.name, V.str (numS r.first), V.str (numS r.least), V.str (numS r.most)]) q1 = _ from upd_same)
    refine ⟨q1, D, _, _, rfl, rfl, hq6, hD6, ?_, fun q2 hq2 => ?_⟩
    · rw [List.length_map, sizeLine_eq]
      show 5 + _ ≤ _
      omega
    have e7 : [V.str "class", V.str r.name, V.str (numS r.first), V.str (numS r.least), V.str (numS r.most)] ++ r.sizes.map (fun n => V.str (numS n)) = (wC r).map V.str := by
      unfold wC
      rw [List.map_append, List.map_map]
      rfl
    have s7 := same_new (o := .lst ([V.str "class", V.str r.name, V.str (numS r.first), V.str (numS r.least), V.str (numS r.most)] ++ r.sizes.map (fun n => V.str (numS n)))) hq2
    have hm : wC r ∈ linesOf lo := List.mem_of_getElem? (ln_row hr)
    have hW7 := s7 _ _ (s6 _ _ (s5 _ _ hW4))
    have hN7 := s7 _ _ (s6 _ _ (s5 _ _ hN4))
    refine ⟨_, q2, wC r, rfl, rfl, .inl (SqL.of (by rw [← e7]; exact upd_same)), join_ok ok hm, W, _, _, rfl, rfl, hW7, ?_, ?_⟩
    · have := LV_len lo (1 + i)
      rw [sizeLine_eq]
      omega
    · refine ⟨_, _, _, _, _, _, _, _, _, _, _, rfl, fun b o hb => ?_, ?_, ?_⟩
      · rw [upd_ne (ne_of_none hb hW)]
        exact s7 _ _ (s6 _ _ (s5 _ _ (s4 _ _ hb)))
      · rw [upd_same]
        exact congrArg _ (congrArg _ (LV_step (ln_row hr)))
      · rw [upd_ne nWN.symm]
        exact hN7
  rintro σ H3 ⟨o3, o4, o5, o6, o7, o8, o9, o10, o11, o12, o13, rfl, s3, hW3, hN3⟩
  rw [hcl] at hW3
  refine ⟨_, rfl, d, _, rfl, lg_beside (s3 _ _ h1), B, rfl, ⟨_, SqL.of (s3 _ _ hB)⟩, ?_⟩
  refine for_it (walk_list (xs := bvs)) (fun i σ H4 => ∃ (o3 o4 o5 o6 o7 o8 o9 o10 o11 o12 o13 : Option V), σ = [some (.ref d), some (.ref W), some (.ref N), o3, o4, o5, o6, o7, o8, o9, o10, o11, o12, o13] ∧
      Same H H4 ∧ H4 W = some (.lst (LV lo (1 + lo.rows.length + i))) ∧ H4 N = some (.lst ((lo.rows.map (·.name)).map V.str)))
    ⟨_, _, _, _, _, _, _, _, _, _, _, rfl, s3, hW3, hN3⟩ (fun _ _ _ _ ⟨_, _, _, _, _, _, _, _, _, _, _, _, s4, _⟩ => SqL.of (s4 _ _ hB)) ?_ ?_
  · rintro i x σ H4 H5 hi ⟨o3, o4, o5, o6, o7, o8, o9, o10, o11, o12, o13, rfl, s4, hW4, hN4⟩ ⟨rfl, hx⟩
    have hi' : i < lo.beside.length := by rw [← hbl]; exact hi
    have hr := List.getElem?_eq_getElem hi'
    obtain ⟨x', hx', rvx⟩ := rvB.get (i := i) (d := SL.pairD lo.beside[i]) (by rw [List.getElem?_map, hr]; rfl)
    rw [hx] at hx'
    cases hx'
    generalize lo.beside[i] = r at hr rvx
    have hlt := allPairs_lt (ok.be.subset (List.mem_of_getElem? hr))
    obtain ⟨t, rfl, ht⟩ := pair_parts (rvx.same s4)
    refine ⟨t, _, rfl, SqT.of ht, rfl, _, _, rfl, _, _, rfl, rfl, ?_⟩
    refine ⟨_, rfl, .inl ⟨rfl, _, SqL.of hW4⟩, ⟨_, rfl⟩, _, rfl, _, rfl, N, _, _, _, rfl, rfl, SqL.of hN4, atI_nat (nm_at (by omega)), _, rfl, _, rfl, N, _, _, _, rfl, rfl, SqL.of hN4, atI_nat (nm_at (by omega)), (by show 3 ≤ sizeLine; decide), fun q1 hq1 => ?_⟩
    have s5 := same_new (o := .lst ((wB lo.rows r).map V.str)) hq1
    have hm : wB lo.rows r ∈ linesOf lo := List.mem_of_getElem? (ln_be hr)
    refine ⟨_, q1, wB lo.rows r, rfl, rfl, .inl (SqL.of upd_same), join_ok ok hm, W, _, _, rfl, rfl, s5 _ _ hW4, ?_, ?_⟩
    · have := LV_len lo (1 + lo.rows.length + i)
      rw [sizeLine_eq]
      omega
    · refine ⟨_, _, _, _, _, _, _, _, _, _, _, rfl, fun b o hb => ?_, ?_, ?_⟩
      · rw [upd_ne (ne_of_none hb hW)]
        exact s5 _ _ (s4 _ _ hb)
      · rw [upd_same]
        exact congrArg _ (congrArg _ (LV_step (ln_be hr)))
      · rw [upd_ne nWN.symm]
        exact s5 _ _ hN4
  rintro σ H3 ⟨o3, o4, o5, o6, o7, o8, o9, o10, o11, o12, o13, rfl, s3, hW3, hN3⟩
  rw [hbl] at hW3
  refine ⟨_, rfl, d, _, rfl, lg_far (s3 _ _ h1), F', rfl, ⟨_, SqL.of (s3 _ _ hF)⟩, ?_⟩
  refine for_it (walk_list (xs := fvs)) (fun i σ H4 => ∃ (o3 o4 o5 o6 o7 o8 o9 o10 o11 o12 o13 : Option V), σ = [some (.ref d), some (.ref W), some (.ref N), o3, o4, o5, o6, o7, o8, o9, o10, o11, o12, o13] ∧
      Same H H4 ∧ H4 W = some (.lst (LV lo (1 + lo.rows.length + lo.beside.length + i))) ∧ H4 N = some (.lst ((lo.rows.map (·.name)).map V.str)))
    ⟨_, _, _, _, _, _, _, _, _, _, _, rfl, s3, hW3, hN3⟩ (fun _ _ _ _ ⟨_, _, _, _, _, _, _, _, _, _, _, _, s4, _⟩ => SqL.of (s4 _ _ hF)) ?_ ?_
  · rintro i x σ H4 H5 hi ⟨o3, o4, o5, o6, o7, o8, o9, o10, o11, o12, o13, rfl, s4, hW4, hN4⟩ ⟨rfl, hx⟩
    have hi' : i < lo.far.length := by rw [← hfl]; exact hi
    have hr := List.getElem?_eq_getElem hi'
    obtain ⟨x', hx', rvx⟩ := rvF.get (i := i) (d := SL.farD lo.far[i]) (by rw [List.getElem?_map, hr]; rfl)
    rw [hx] at hx'
    cases hx'
    generalize lo.far[i] = r at hr rvx
    have hmem := List.mem_of_getElem? hr
    have hlt := allPairs_lt (ok.fa.subset (List.mem_map.mpr ⟨r, hmem, rfl⟩))
    have hdi := ok.di r hmem
    obtain ⟨t, t', rfl, ht, ht'⟩ := far_parts (rvx.same s4)
    refine ⟨t, _, rfl, SqT.of ht, rfl, _, _, rfl, _, _, rfl, rfl, ?_⟩
    refine ⟨_, rfl, .inl ⟨rfl, _, SqL.of hW4⟩, ⟨_, rfl⟩, _, rfl, _, rfl, t', _, _, _, rfl, rfl, SqT.of ht', rfl, N, _, _, _, rfl, rfl, SqL.of hN4, atI_nat (nm_at (by omega)), _, rfl, _, rfl, t', _, _, _, rfl, rfl, SqT.of ht', rfl, N, _, _, _, rfl, rfl, SqL.of hN4, atI_nat (nm_at (by omega)), _, rfl, _, rfl, lgS (by omega) (by omega), (by show 4 ≤ sizeLine; decide), fun q1 hq1 => ?_⟩
    have s5 := same_new (o := .lst ((wF lo.rows r).map V.str)) hq1
    have hm : wF lo.rows r ∈ linesOf lo := List.mem_of_getElem? (ln_fa hr)
    refine ⟨_, q1, wF lo.rows r, rfl, rfl, .inl (SqL.of upd_same), join_ok ok hm, W, _, _, rfl, rfl, s5 _ _ hW4, ?_, ?_⟩
    · have := LV_len lo (1 + lo.rows.length + lo.beside.length + i)
      rw [sizeLine_eq]
      omega
    · refine ⟨_, _, _, _, _, _, _, _, _, _, _, rfl, fun b o hb => ?_, ?_, ?_⟩
      · rw [upd_ne (ne_of_none hb hW)]
        exact s5 _ _ (s4 _ _ hb)
      · rw [upd_same]
        exact congrArg _ (congrArg _ (LV_step (ln_fa hr)))
      · rw [upd_ne nWN.symm]
        exact s5 _ _ hN4
  rintro σ H3 ⟨o3, o4, o5, o6, o7, o8, o9, o10, o11, o12, o13, rfl, s3, hW3, hN3⟩
  rw [hfl, ← hct] at hW3
  have e : LV lo (linesOf lo).length = ((linesOf lo).map lineOf).map V.str := by
    unfold LV
    rw [List.take_length, List.map_map]
    rfl
  rw [e] at hW3
  exact ⟨⟨_, rfl⟩, _, rfl, _, W, _, rfl, rfl, .inl (SqL.of hW3), join_all ok, k H3 s3⟩
end
end SK
set_option maxHeartbeats 4000000
namespace SL
open PySem PySem.Spec PyProof.Rows L2
section
variable {X : Cx} {CX : CXT} {C g : Addr} {n : Nat} {sp : Sp} {E : XK}
end
end SL
set_option maxHeartbeats 4000000
namespace SL
open PySem PySem.Spec PyProof.Rows L2 TL
theorem LoreOk.kind {lo : Lore} (h : LoreOk lo) : ∀ ws ∈ SL.linesOf lo, ∀ w ∈ ws, isName w = true ∨ allFig w = true := by
  intro ws hws w hw
  unfold SL.linesOf at hws
  have hz1 := h.z1
  have hz5 := h.z5
  simp only [List.mem_cons, List.mem_append, List.mem_map] at hws
  rcases hws with rfl | ⟨r, hr, rfl⟩ | ⟨p, hp, rfl⟩ | ⟨p, hp, rfl⟩
  · simp only [wZ, List.mem_cons, List.not_mem_nil, or_false] at hw
    rcases hw with rfl | rfl
    · exact .inl (by decide +kernel)
    · exact .inr (num_ok (by omega) (by omega)).2.1
  · obtain ⟨r1, r2, r3, r4, r5, r6, r7, r8⟩ := rowOk_iff.mp (h.rows.ok r hr)
    have := sizesOk_pos r3
    simp only [wC, List.cons_append, List.nil_append, List.mem_cons, List.mem_map] at hw
    rcases hw with rfl | rfl | rfl | rfl | rfl | ⟨n, hn, rfl⟩
    · exact .inl (by decide +kernel)
    · exact .inl r1
    · exact .inr (num_ok (by omega) (by omega)).2.1
    · exact .inr (num_ok (by omega) (by omega)).2.1
    · exact .inr (num_ok (by omega) (by omega)).2.1
    · have := sizes_rng r3 hn
      exact .inr (num_ok (by omega) (by omega)).2.1
  · have hm := allPairs_lt (h.be.subset hp)
    simp only [wB, List.mem_cons, List.not_mem_nil, or_false] at hw
    rcases hw with rfl | rfl | rfl
    · exact .inl (by decide +kernel)
    · exact .inl (h.nm (by omega))
    · exact .inl (h.nm (by omega))
  · have hm := allPairs_lt (h.fa.subset (List.mem_map.mpr ⟨p, hp, rfl⟩))
    have hd := h.di p hp
    simp only [wF, List.mem_cons, List.not_mem_nil, or_false] at hw
    rcases hw with rfl | rfl | rfl | rfl
    · exact .inl (by decide +kernel)
    · exact .inl (h.nm (by omega))
    · exact .inl (h.nm (by omega))
    · exact .inr (num_ok (by omega) (by omega)).2.1
theorem LoreOk.signs {lo : Lore} (h : LoreOk lo) : ∀ c ∈ (textOf lo).cps.toList, c < 16 ^ 8 := by
  intro c hc
  have hc : c ∈ tl (Txt.join "\n" ((SL.linesOf lo).map lineOf)) := hc
  have lim : ∀ c : Nat, c ≤ 200 → c < 16 ^ 8 := fun c h => Nat.lt_of_le_of_lt h (by decide)
  rw [join_eq, tl_join, tl_nl] at hc
  rcases mem_joinL hc with h1 | ⟨p, hp, h1⟩
  · simp at h1
    exact lim c (by omega)
  · rw [List.map_map] at hp
    obtain ⟨ws, hws, rfl⟩ := List.mem_map.mp hp
    have h1 : c ∈ tl (Txt.join " " ws) := h1
    rw [join_eq, tl_join, tl_sp] at h1
    rcases mem_joinL h1 with h2 | ⟨q, hq, h2⟩
    · simp at h2
      exact lim c (by omega)
    · obtain ⟨w, hw, rfl⟩ := List.mem_map.mp hq
      rcases h.kind ws hws w hw with h3 | h3
      · unfold isName at h3
        simp only [Bool.and_eq_true] at h3
        have := let_ok (of_decide_eq_true (List.all_eq_true.mp h3.2 c h2))
        exact lim c (by omega)
      · have := fig_ok (of_decide_eq_true (List.all_eq_true.mp h3 c h2))
        exact lim c (by omega)
theorem LoreOk.len {lo : Lore} (h : LoreOk lo) : (textOf lo).length ≤ 4000 := by
  have h1 := h.count
  refine Nat.le_trans (join_len (y := "\n") (B := 130) (ws := (SL.linesOf lo).map lineOf) fun w hw => ?_) ?_
  · obtain ⟨ws, hws, rfl⟩ := List.mem_map.mp hw
    exact h.lineLen ws hws
  · rw [nl_len, List.length_map]
    omega
theorem SAt.obj {CS CW a : Addr} {H : Hp} {x : Str} {st : RSt} (h : SAt CS CW H (.ref a) x st) : ∃ dx fs, H a = some (.ins CS dx fs) := by
  obtain ⟨⟨s0, dx, a1, a2, a3, a4, vs, kvs, ws, e, h1, _⟩, _⟩ := h
  cases e
  exact ⟨_, _, h1⟩
end SL
namespace SK
open PySem PySem.Spec PyProof.Rows L2 SL
section
variable {w : World} {K : PySem.W.Frag} {mg : Str → Option Value} {base : Heap}
theorem tx_ok {lo : Lore} (ok : LoreOk lo) : txOk (textOf lo) := by
  have h1 := ok.len
  have h2 := ok.count
  refine ⟨by omega, ?_, fun z hz => ?_⟩
  · rw [ok.split, List.length_map]
    omega
  · rw [ok.split] at hz
    obtain ⟨ws, hws, rfl⟩ := List.mem_map.mp hz
    exact Nat.le_trans (ok.lineLen ws hws) (by decide)
abbrev stOf (so : Str) (lo : Lore) : RSt := ⟨so, lo.zooms - 1, lo.rows, lo.beside, lo.far⟩
theorem style_q {lo : Lore} {H : Hp} {Q : VK} {E : XK} {a dx : Addr} (ok : LoreOk lo) (ha : H a = none) (hdx : H dx = none) (hne : dx ≠ a) (k : ∀ (H' : Hp) (so : Str), Same H H' → StAt K H' (.ref a) (textOf lo) (stOf so lo) → Q .non H') :
    spStyleInit K (.ref a :: ([.str (textOf lo)] ++ [])) (upd (upd H dx (.own a)) a (.ins (He.ga K "Style") dx [])) Q E := by
  refine ⟨_, _, rfl, a, dx, rfl, upd_same, ⟨_, .str _⟩, fun e => (by cases e), fun x e => ?_⟩
  cases e
  obtain ⟨so, hrd⟩ := ok.reads
  refine ⟨tx_ok ok, fun n e => ?_, fun st e H' os S => ?_⟩
  · rw [hrd] at e
    cases e
  · rw [hrd] at e
    cases e
    refine k H' so (fun b o hb => ?_) S
    refine os b o (ne_of_none hb ha) ?_
    rw [upd_ne (ne_of_none hb ha), upd_ne (ne_of_none hb hdx)]
    exact hb
end
end SK
set_option maxHeartbeats 4000000
namespace SL
open PySem PySem.Spec PyProof.Rows L2
def exk (e C d : Addr) : HO := .ext fun h => ∃ (oe : Obj) (vs : Array Value), h.get? e = some oe ∧ oe.cls = .ref C ∧ oe.dict = some d ∧ oe.data = .fields vs
section
variable {X : Cx} {pins : List (Addr × Obj)} {σ : L2.St} {H : Hp} {s : Shared}
theorem exk_new {P : Program} {w : World} {h : Heap} {H : Hp} {e C d : Addr} {oe : Obj} {vs : Array Value} (ho : h.get? e = some oe) (h1 : oe.cls = .ref C) (h2 : oe.dict = some d) (h3 : oe.data = .fields vs) : ObjOk P w H h e (exk e C d) := by
  refine ⟨⟨oe, vs, ho, h1, h2, h3⟩, ⟨oe, ho⟩, fun g1 g2 z k => ?_⟩
  obtain ⟨oe', vs', z1, z2⟩ := z
  exact ⟨oe', vs', k _ z1, z2⟩
theorem adopt {a : Addr} {oe : Obj} {o : HO} (I : Inv X ((a, oe) :: pins) σ H s) (h0 : ∀ u, X.s_0.heap.get? a = some u → a ∈ X.ex) (hp : ∀ p ∈ X.pn ++ pins, p.1 ≠ a) (new : ObjOk X.prog X.w (upd H a o) s.heap a o) : Inv X pins σ (upd H a o) s := by
  obtain ⟨pa, pn, pl, pf, pc⟩ := I.pin (a, oe) (List.mem_append_right _ List.mem_cons_self)
  have pn : H a = none := pn
  have ne : ∀ {b : Addr} {u : HO}, H b = some u → b ≠ a := fun {b u} e z => by rw [z, pn] at e; cases e
  refine ⟨I.ok, I.os, I.bare, ⟨I.base.keep, I.base.slot, fun b u e1 e2 e3 => ?_, I.base.there, fun b xs e => ?_, fun b u v e => ?_, fun b ps e => ?_⟩, I.loc, I.cell, ?_, fun x c e => ?_, fun p hm => ?_, I.hok.laidN (fun _ _ z => z) pn new, I.len⟩
  · by_cases hb : b = a
    · subst hb
      exact absurd (h0 u e1) e3
    · rw [upd_ne hb]
      exact I.base.free b u e1 e2 e3
  · have z := I.base.tups b xs e
    rw [upd_ne (ne z)]
    exact z
  · have z := I.base.frzs b u v e
    rw [upd_ne (ne z)]
    exact z
  · obtain ⟨more, z⟩ := I.base.tbls b ps e
    exact ⟨more, by rw [upd_ne (ne z)]; exact z⟩
  · rw [upd_ne (Ne.symm pl)]
    exact I.free
  · rw [upd_ne]
    · exact I.freeC x c e
    · intro z
      obtain ⟨v, oc, h1, h2⟩ := I.cell x c e
      rw [z] at h1
      have pa : s.heap.get? a = some oe := pa
      rw [pa] at h1
      cases h1
      exact pc v (by simpa using h2)
  · obtain ⟨q1, q2, q3, q4, q5⟩ := I.pin p (by
      rcases List.mem_append.mp hm with z | z
      · exact List.mem_append_left _ z
      · exact List.mem_append_right _ (List.mem_cons_of_mem _ z))
    exact ⟨q1, by rw [upd_ne (hp p hm)]; exact q2, q3, q4, q5⟩
end
end SL
namespace SL
open PySem PySem.Spec PyProof.Rows L2
def wKeep (K : PySem.W.Frag) (c : Value) (i : Nat) (ts : TS) (Wout : WX) (D : Ends) : WX := fun cls d σ H =>
  ∃ b, PySem.W.exmOne K cls c = some b ∧ (b = true → ∃ C dd, cls = .ref C ∧ d = some dd ∧ ∀ a, H a = none →
    ts { nx := fun σ' H' => D.nx (σ'.set i none) (upd H' a (exk a C dd)), rt := fun _ _ => False, bk := fun _ _ => False, ct := fun _ _ => False } (σ.set i (some (.ref a))) H) ∧ (b = false → Wout cls d σ H)
section
variable {X : Cx} {x n : Str} {c : Value} {i : Nat} {body suite : List Stmt} {st0 : Stmt} {np pos pos' : Pos} {tb : WX → TS} {ts : TS} {Wout : WX}
theorem ps_try_keep (hst : X.stack = X.env :: X.outer) (hfr : X.env.frame = some X.env.locals) (nd : X.N.Nodup) (hi : X.N[i]? = some n) (kn : X.env.kindOf n = some .local) (hc : Names X x c) (tk : Takes X Wout)
    (hbd : ∀ (W : WX) (pn : List (Addr × Obj)) (xe : Value → Shared → Prop), Takes (X.tr pn xe) W → PassesOwn (model X.prog X.w) X.A X.env xe → PSs (X.tr pn xe) body (tb W))
    (hsu : ∀ (a : Addr) (oe : Obj) (pn : List (Addr × Obj)), (∃ vs, oe.data = .fields vs) → PSs (X.suite a ((a, oe) :: pn)) (st0 :: suite) ts) :
    PS X (.Try body [.ExceptHandler (some (.Name x np)) (some n) (st0 :: suite) pos'] [] [] pos) (fun D σ H => tb (wKeep X.K c i ts Wout D) D σ H) := by
  constructor
  intro pins s σ H D I h
  have ok := I.ok
  have hA : X.A.frames = some (X.env :: X.outer) := by rw [ok.frames, hst]
  refine wpAny_Try_except (wpAny_mono ((hbd (wKeep X.K c i ts Wout D) (X.pn ++ pins) (fun e s1 => wpAny (model X.prog X.w) X.A (noteFrame e X.env) (fun _ s2 => wpAny (model X.prog X.w) X.A (setFlight e none) (fun _ s3 => wpAny (model X.prog X.w) X.A (handleBy e X.env [.ExceptHandler (some (.Name x np)) (some n) (st0 :: suite) pos']) (SP X pins D) X.xe s3) X.xe s2) X.xe s1) (fun u s' z => ?ct) PassesOwn.looking).run [] s σ H D (I.toTry _) h) (fun f s1 z => ?en) (fun _ _ z => z))
  case en =>
    cases f with
    | next => obtain ⟨σ1, H1, J1, q⟩ := z; exact wpAny_execs_nil ⟨σ1, H1, J1.ofTry ok, q⟩
    | brk => obtain ⟨σ1, H1, J1, q⟩ := z; exact ⟨σ1, H1, J1.ofTry ok, q⟩
    | cont => obtain ⟨σ1, H1, J1, q⟩ := z; exact ⟨σ1, H1, J1.ofTry ok, q⟩
    | ret u => obtain ⟨v, σ1, H1, J1, r, q⟩ := z; exact ⟨v, σ1, H1, J1.ofTry ok, r, q⟩
  case ct =>
    obtain ⟨a, B, sI, pins', σ1, H1, cls, d, rfl, J1, nb, up, sky, na, os, ag, b, eb, yes, no⟩ := z
    have J : Inv X pins σ1 H1 sI := J1.ofTry ok
    have ba : B.get? a = none := by rcases sky with z | z | z <;> exact z.2.1
    have sky1 : Sky B (X.env :: X.outer) a (Zc cls d) X.env.locals s'.heap := hst ▸ sky
    show wpAny (model X.prog X.w) X.A (noteFrame (.ref a) X.env) _ _ _
    refine Sky.land Zc.steady hA hfr sky1 fun h3 fl3 up3 => ?_
    have J3 : Inv X pins σ1 H1 { s' with heap := h3 } := J.landed nb fl3.1 (up.trans up3) os ag
    obtain ⟨oe3, vs3, he3, hz3, hd3⟩ := fl3.there
    have nfr : a ∉ frs (X.env :: X.outer) := fun hm => by
      obtain ⟨_, o', e', hnf⟩ := fl3.2.2.1.mem hm
      rw [he3] at e'
      cases e'
      exact hnf _ hd3
    have nL : a ≠ X.env.locals := fun z => nfr (List.mem_filterMap.mpr ⟨X.env, List.mem_cons_self, by rw [hfr, z]⟩)
    have nF : a ∉ X.fs := fun hm => by
      obtain ⟨e, he, q⟩ := List.mem_filterMap.mp hm
      exact nfr (List.mem_filterMap.mpr ⟨e, List.mem_cons_of_mem _ he, q⟩)
    have aI : sI.heap.get? a = none := by
      cases e : sI.heap.get? a with
      | none => rfl
      | some o =>
        have z := nb a o e (by rw [hst]; exact nfr)
        rw [ba] at z
        cases z
    have h0 : ∀ u, X.s_0.heap.get? a = some u → a ∈ X.ex := fun u e => by
      by_cases hx : a ∈ X.ex
      · exact hx
      · obtain ⟨o', e'⟩ := J.base.there a u e hx
        rw [aI] at e'
        cases e'
    have hpn : ∀ p ∈ X.pn ++ pins, p.1 ≠ a := fun p hp z => by
      have := (J.pin p hp).1
      rw [z, aI] at this
      cases this
    have S3 := J3.suite he3 hd3 na nL nF
    refine wpAny_handleBy_cons (codeAny_handlers_test ?_) (by intro q; cases q)
    have LT : PySem.W.Looks (model X.prog X.w) h3 (typeOf (.ref a)) cls := fun _ _ _ _ k q => wpAny_typeOf_ref (k _ _ he3) (by rw [hz3.1]; exact q)
    have LM := PySem.W.exm_one (M := model X.prog X.w) (J3.kIn) LT eb
    have test : ∀ {Q : Value → Shared → Prop} {E : Value → Shared → Prop}, Q c { s' with heap := h3 } → wpAny (model X.prog X.w) (X.A.mark (some (.ref a))) (eval (.Name x np) X.env) Q E { s' with heap := h3 } := fun {Q E} q => by
      obtain ⟨g1, g2, g3 | ⟨g3, g4, g5⟩⟩ := hc
      · exact ld_glob (X := Cx.suite X a ((a, oe3) :: (X.pn ++ pins))) S3 g1 g3 q g2
      · exact ld_blt (X := Cx.suite X a ((a, oe3) :: (X.pn ++ pins))) S3 g1 g3 g4 q g5 g2
    refine test (LM.here ?_)
    cases b with
    | true =>
      obtain ⟨C, dd, rfl, rfl, ys⟩ := yes rfl
      refine codeAny_handlers_suite_as (HandSPX.lands_againZ fl3 fun h4 fl4 up4 => ?_)
      have J4 : Inv X pins σ1 H1 { s' with heap := h4 } := J.landed nb fl4.1 ((up.trans up3).trans up4) os ag
      obtain ⟨oe4, vs4, he4, hz4, hd4⟩ := fl4.there
      have S4 := J4.suite he4 hd4 na nL nF
      refine store_ok (X := Cx.suite X a ((a, oe4) :: (X.pn ++ pins))) (v := V.ref a) S4 nd hi (.inl kn) rfl (fun s5 S5 => ?_) (.inr kn)
      refine wpAny_mono ((hsu a oe4 (X.pn ++ pins) ⟨_, hd4⟩).run [] s5 _ H1 _ S5 (ys a na)) (fun f s6 q => ?_) (fun _ _ z => z.elim)
      cases f with
      | next =>
        obtain ⟨σ6, H6, S6, q6⟩ := q
        have J6 : Inv X ((a, oe4) :: pins) σ6 H6 s6 := (S6.unsuite ok).pins_of fun p hp => by
          rcases List.mem_cons.mp hp with z | z
          · rw [z]
            exact S6.pin (a, oe4) (List.mem_append_left _ List.mem_cons_self)
          · exact S6.pin p (List.mem_append_left _ (List.mem_cons_of_mem _ (List.mem_append_right _ z)))
        refine gone_ok J6 nd hi kn fun s7 J7 => ?_
        have p7 := J7.pin (a, oe4) (List.mem_append_right _ List.mem_cons_self)
        exact ⟨_, _, adopt J7 h0 hpn (exk_new p7.1 hz4.1 hz4.2 hd4), q6⟩
      | brk => obtain ⟨_, _, _, q6⟩ := q; exact q6.elim
      | cont => obtain ⟨_, _, _, q6⟩ := q; exact q6.elim
      | ret u => obtain ⟨_, _, _, _, _, q6⟩ := q; exact q6.elim
    | false =>
      show wpAny _ X.A (handleBy (.ref a) X.env []) _ _ _
      refine wpAny_handleBy_nil ?_
      obtain ⟨_, _, _, oe, vs, T, oT, ts', he, hz, hd, h1, hr⟩ := id fl3
      unfold PySem.passOn
      refine wpAny_bind (wpAny_field he hd h1 ?_)
      rw [if_neg (by simp : ¬ ((Value.ref T == Value.none) = true))]
      have fin : wpAny (model X.prog X.w) X.A (setFlight (.ref a) X.env.frame) (fun _ s4 => wpAny (model X.prog X.w) X.A (throw (.ref a) : Sem Flow) (SP X pins D) X.xe s4) X.xe { s' with heap := h3 } := by
        rw [hfr]
        refine HandSPX.setFlight_upZ fl3 fun h4 hh4 up4 => wpAny_throw (tk _ _ ⟨a, B, sI, pins, σ1, H1, cls, d, rfl, J, nb, (up.trans up3).trans up4, .inr (.inr (by rw [hst]; exact hh4)), na, os, ag, no rfl⟩)
      first
        | exact wpAny_bind (wpAny_pure (wpAny_bind fin))
        | exact wpAny_bind fin
end
end SL
set_option maxHeartbeats 4000000
namespace SL
open PySem PySem.Spec PyProof.Rows L2
def KeptAt (H : Hp) (a C : Addr) (v : V) : Prop := ∃ d, H a = some (exk a C d) ∧ H d = some (.xd [("value", v)])
theorem KeptAt.same {H H' : Hp} (e : Same H H') {a C : Addr} {v : V} (h : KeptAt H a C v) : KeptAt H' a C v := by
  obtain ⟨d, h1, h2⟩ := h
  exact ⟨d, e _ _ h1, e _ _ h2⟩
section
variable {X : Cx} {D fI : Addr} {e : Expr} {te : TE} {pos : Pos} {pins : List (Addr × Obj)} {σ : L2.St} {H : Hp} {s : Shared}
theorem kept_look (I : Inv X pins σ H s) {a C : Addr} {v : V} (h : KeptAt H a C v) : ∃ (oe od : Obj) (u : Value), PySem.W.InstAt s.heap a oe C (some od) ∧ RelV v u ∧ PySem.W.lookIn "value" od = some (some u) := by
  obtain ⟨d, ha, hd⟩ := h
  obtain ⟨⟨oe, vs, ho, h1, h2, h3⟩, _⟩ := I.hok a _ ha
  obtain ⟨mA, hns, hr⟩ := I.hok d _ hd
  obtain ⟨od, hod, hl⟩ := lookIn_ns hns
  have rr := hr "value"
  rw [show List.lookup ("value" : Str) [(("value" : Str), v)] = some v by simp [List.lookup]] at rr
  obtain ⟨u, hu, ru⟩ := RelO.some_of rr
  refine ⟨oe, od, u, ⟨ho, h1, ?_, ?_⟩, ru, by rw [hl, hu]⟩
  · unfold PySem.W.notCls
    rw [h3]
  · rw [h2]
    exact hod
def tKeptV (K : PySem.W.Frag) (D fI : Addr) (te : TE) : TE := fun σ H Q => te σ H fun x H1 => ∃ (a C : Addr) (v : V), x = .ref a ∧ ErrC K D fI C ∧ KeptAt H1 a C v ∧ Q v H1
theorem pe_keptV (he : PE X e te) (hb : attributeBase e "value" X.env (eval e X.env) = eval e X.env := by rfl) : PE X (.Attribute e "value" pos) (tKeptV X.K D fI te) := by
  refine ⟨fun pins s σ H Q I h => attr_of hb (thn (he.run pins s σ H _ I h) fun u s1 z => ?_)⟩
  obtain ⟨y, H1, I1, rx, a, C, v, rfl, T, k, q⟩ := z
  cases rx
  obtain ⟨oe, od, u, J, ru, hl⟩ := kept_look I1 k
  exact HandSPX.exc_get I1.kIn J T.ga T.gg T.exC (PySem.W.findObj_own T.hdC T.noV rfl hl) (handed_of ru) ⟨v, H1, I1.tok _, ru, q⟩
def rIsKept (K : PySem.W.Frag) (D fI : Addr) : List V → Hp → VK → Prop := fun xs H Q => ∃ (a C : Addr) (c : V) (cu : Value) (v : V) (b : Bool), xs = [.ref a, c] ∧ ErrC K D fI C ∧ KeptAt H a C v ∧ ClsV c cu ∧ PySem.W.kitOne K (.ref C) cu = some b ∧ Q (.bl b) H
theorem call_isKept : CallR X (.builtin "isinstance") (rIsKept X.K D fI) := by
  intro pins s σ H xs us Q I r h
  obtain ⟨a, C, c, cu, v, b, rfl, T, k, kc, e, q⟩ := h
  obtain ⟨u1, u2, rfl, r1, r2⟩ := vals2 r
  cases r1
  cases kc.eq r2
  obtain ⟨oe, od, u, J, _, _⟩ := kept_look I k
  have hcl : (PySem.W.clsIn X.K C).isSome = true := by
    obtain ⟨cd, hc, _⟩ := PySem.W.any_some T.hdC
    rw [hc]
    rfl
  exact PySem.W.kia_one (PySem.W.kitx_exc hcl T.ga T.gg T.exC T.cl T.sp T.tk T.ob) I.kIn J e (fun z => nomatch z) fun tk => ⟨.bl b, H, I.tok tk, rfl, q⟩
end
end SL
set_option maxHeartbeats 4000000
namespace SL
open PySem PySem.Spec PyProof.Rows L2
end SL
set_option maxHeartbeats 4000000
namespace SK
open PySem PySem.Spec PyProof.Rows L2 SL
section
variable {w : World} {K : PySem.W.Frag} {mg : Str → Option Value} {base : Heap}
abbrev cVw (K : PySem.W.Frag) : Addr := He.ga K "View"
def VwAt (K : PySem.W.Frag) (H : Hp) (v sv : V) (x : Str) (st : RSt) (n : Int) : Prop := ∃ a dx t, v = .ref a ∧
  H a = some (.ins (cVw K) dx [("own_style", sv), ("own_zoom", .int n), ("own_pixel", .int (2 ^ (st.last - n).toNat)), ("own_sizes", .ref t)]) ∧ H t = some (.tup ((st.rows.map fun r => sizeAt r n).map V.int)) ∧ StAt K H sv x st
theorem VwAt.same {H H' : Hp} {v sv : V} {x : Str} {st : RSt} {n : Int} (h : VwAt K H v sv x st n) (s : Same H H') : VwAt K H' v sv x st n := by
  obtain ⟨a, dx, t, e, h1, h2, h3⟩ := h
  exact ⟨a, dx, t, e, s _ _ h1, s _ _ h2, SAt.same s h3⟩
end
end SK
set_option maxHeartbeats 4000000
namespace SK
open PySem PySem.Spec PyProof.Rows L2 SL
section
variable {w : World} {K : PySem.W.Frag} {mg : Str → Option Value} {base : Heap}
theorem pow_small {n : Nat} (h : n ≤ 10) : (0 : Int) < 2 ^ n ∧ (2 : Int) ^ n ≤ 1024 := by
  have : ∀ k : Nat, k ≤ 10 → (0 : Int) < 2 ^ k ∧ (2 : Int) ^ k ≤ 1024 := by decide
  exact this n h
def hhOf (st : RSt) (n : Int) (r : SL.Row) : Int := sizeAt r n * 2 ^ (st.last - n).toNat
theorem hh_rng {st : RSt} {n : Int} {r : SL.Row} (h0 : 0 ≤ sizeAt r n) (h9 : sizeAt r n ≤ 9) (hl : st.last - n ≤ 10) : 0 ≤ hhOf st n r ∧ hhOf st n r ≤ 9216 := by
  obtain ⟨p1, p2⟩ := pow_small (n := (st.last - n).toNat) (by omega)
  unfold hhOf
  exact ⟨Int.mul_nonneg h0 (by omega), Int.le_trans (Int.mul_le_mul h9 p2 (by omega) (by decide)) (by decide)⟩
end
end SK
set_option maxHeartbeats 4000000
namespace SL
open PySem PySem.Spec PyProof.Rows L2
structure Lab where
  name : Str
  kind : Str
  letters : Int
  weight : Int
  x : Int
  y : Int
def Lab.vs (l : Lab) : List V := [.str l.name, .str l.kind, .int l.letters, .int l.weight, .int l.x, .int l.y]
def LabAt (H : Hp) (v : V) (l : Lab) : Prop := ∃ t, v = .ref t ∧ H t = some (.tup l.vs)
theorem LabAt.same {H H' : Hp} {v : V} {l : Lab} (h : LabAt H v l) (s : Same H H') : LabAt H' v l := by
  obtain ⟨t, e, h⟩ := h
  exact ⟨t, e, s _ _ h⟩
def rowAt (st : RSt) (l : Lab) : Option SL.Row := st.rows[(names st).idxOf l.kind]?
def boxOf (st : RSt) (n : Int) (l : Lab) : Option (Int × Int) := (rowAt st l).bind fun r => if 0 < sizeAt r n then some (l.letters * (sizeAt r n * 2 ^ (st.last - n).toNat), sizeAt r n * 2 ^ (st.last - n).toNat) else none
structure LabIn (st : RSt) (n : Int) (l : Lab) : Prop where
  kd : l.kind ∈ names st
  l0 : 0 ≤ l.letters
  l1 : l.letters ≤ 100
  z : ∀ r ∈ st.rows, 0 ≤ sizeAt r n ∧ sizeAt r n ≤ 9
  p : st.last - n ≤ 10
theorem LabIn.row {st : RSt} {n : Int} {l : Lab} (h : LabIn st n l) : ∃ r, rowAt st l = some r ∧ r ∈ st.rows := by
  have hlt : (names st).idxOf l.kind < st.rows.length := by
    have := List.idxOf_lt_length_of_mem h.kd
    unfold names at this ⊢
    rwa [List.length_map] at this
  exact ⟨st.rows[(names st).idxOf l.kind], List.getElem?_eq_getElem hlt, List.getElem_mem hlt⟩
def boxV (b : Int × Int) : List V := [.int b.1, .int b.2]
end SL
namespace SK
open PySem PySem.Spec PyProof.Rows L2 SL
section
variable {w : World} {K : PySem.W.Frag} {mg : Str → Option Value} {base : Heap}
end
end SK
set_option maxHeartbeats 4000000
namespace SL
open PySem PySem.Spec PyProof.Rows L2
def BxAt (H : Hp) (v : V) : Option (Int × Int) → Prop
  | none => v = .non
  | some b => ∃ t, v = .ref t ∧ H t = some (.tup (boxV b))
theorem BxAt.same {H H' : Hp} {v : V} {b : Option (Int × Int)} (h : BxAt H v b) (s : Same H H') : BxAt H' v b := by
  cases b with
  | none => exact h
  | some b =>
    obtain ⟨t, e, h⟩ := h
    exact ⟨t, e, s _ _ h⟩
def absI (i : Int) : Int := if i < 0 then -i else i
def ovOf (st : RSt) (n : Int) (l m : Lab) : Bool := match boxOf st n l, boxOf st n m with
  | some b, some c => decide (absI (l.x - m.x) < b.1 + c.1) && decide (absI (l.y - m.y) < b.2 + c.2)
  | _, _ => false
end SL
namespace SK
open PySem PySem.Spec PyProof.Rows L2 SL
section
variable {w : World} {K : PySem.W.Frag} {mg : Str → Option Value} {base : Heap}
end
end SK
set_option maxHeartbeats 4000000
namespace SL
open PySem PySem.Spec PyProof.Rows L2
def rkOf (st : RSt) (l : Lab) : Nat := (names st).idxOf l.kind
def clashOf (st : RSt) (n : Int) (l m : Lab) : Bool := decide (rankP (rkOf st l) (rkOf st m) ∉ st.beside) && ovOf st n l m
end SL
namespace SK
open PySem PySem.Spec PyProof.Rows L2 SL
section
variable {w : World} {K : PySem.W.Frag} {mg : Str → Option Value} {base : Heap}
end
end SK
set_option maxHeartbeats 4000000
namespace SL
open PySem PySem.Spec PyProof.Rows L2
def gapOf (l m : Lab) : Int := if absI (l.x - m.x) > absI (l.y - m.y) then absI (l.x - m.x) else absI (l.y - m.y)
def okeyOf (st : RSt) (l : Lab) : List Key := [.inl (rkOf st l : Nat), .inl (-l.weight), .inr l.name]
def spGap : Sp := sp2 fun a b H Q _ => ∃ la lb, LabAt H a la ∧ LabAt H b lb ∧ Q (.int (gapOf la lb)) H
end SL
namespace SK
open PySem PySem.Spec PyProof.Rows L2 SL
section
variable {w : World} {K : PySem.W.Frag} {mg : Str → Option Value} {base : Heap}
def spOKey (K : PySem.W.Frag) : Sp := sp2 fun s l H Q _ => ∃ x st lab, StAt K H s x st ∧ LabAt H l lab ∧ lab.kind ∈ names st ∧ ∀ H' t, Same H H' → H t = none → H' t = some (.tup ((okeyOf st lab).map kV)) → Q (.ref t) H'
abbrev n_order_key : List Str := ["style", "label"]
theorem sc_order_key : FnScope n_order_key ["style", "label"] (defScope d_order_key) := ⟨rfl, rfl, rfl, by decide +kernel, rfl, by decide +kernel, by decide +kernel⟩
theorem ok_order_key (T : Top w K mg) : Has prg w K mg base CX0 1 (He.ga K "order_key") ["style", "label"] (spOKey K) := by
  obtain ⟨fd, F⟩ := T.F_order_key
  refine ⟨fd, F.ok (k := 0) sc_order_key (fun _ _ _ _ h => sp2_len h) (fun cdv A outer s H vs Q E hr h => ?_), F.bindsN (fun _ _ _ _ _ _ us hl => match us, hl with | [_, _], _ => rfl), F.kp⟩
  obtain ⟨v0, v1, rfl, h⟩ := h
  refine ⟨_, PSs.nox (pss_one (ps_ret (pe_tup (pa_cons (pe_dget (hu_of hr) (pe_fld (pv 0) rfl) (pe_ix ix_tup (pv 1) pe_int (fun _ _ => rfl)) (fun _ _ => rfl)) (pa_cons (pe_un un_neg (pe_ix ix_tup (pv 1) pe_int (fun _ _ => rfl))) (pa_cons (pe_ix ix_tup (pv 1) pe_int (fun _ _ => rfl)) pa_nil)))))), ?_⟩
  obtain ⟨x, st, lab, S, ⟨tl, rfl, hl⟩, hk, q⟩ := h
  obtain ⟨⟨ss, sdx, a1, a2, a3, a4, vs, kvs, ws, rfl, g1, g2, g3, g4, g5, g6, g7, g8⟩, wf, le⟩ := id S
  have hg : DGet H a2 (.str lab.kind) (some (.int (rkOf st lab : Nat))) := by
    have := DGet.k (k := Sum.inr lab.kind) g4
    rw [g5, if_pos hk] at this
    exact this
  refine ⟨_, rfl, ss, _, sdx, _, _, rfl, g1, T.cl_Style, T.na_Style_own_ranks, rfl, _, rfl, tl, _, _, _, rfl, rfl, SqT.of hl, atI_nat (j := 1) rfl, a2, _, rfl, hg, _, rfl, tl, _, _, _, rfl, rfl, SqT.of hl, atI_nat (j := 3) rfl, ?_⟩
  refine ⟨_, rfl, _, rfl, tl, _, _, _, rfl, rfl, SqT.of hl, atI_nat (j := 0) rfl, (by show 3 ≤ sizeLine; decide), fun t ht => q _ t (same_new ht) ht upd_same⟩
abbrev n_gap_between : List Str := ["one", "other", "across", "up"]
theorem sc_gap_between : FnScope n_gap_between ["one", "other"] (defScope d_gap_between) := ⟨rfl, rfl, rfl, by decide +kernel, rfl, by decide +kernel, by decide +kernel⟩
theorem ok_gap_between (T : Top w K mg) : Has prg w K mg base CX0 1 (He.ga K "gap_between") ["one", "other"] spGap := by
  obtain ⟨fd, F⟩ := T.F_gap_between
  refine ⟨fd, F.ok (k := 0) sc_gap_between (fun _ _ _ _ h => sp2_len h) (fun cdv A outer s H vs Q E hr h => ?_), F.bindsN (fun _ _ _ _ _ _ us hl => match us, hl with | [_, _], _ => rfl), F.kp⟩
  obtain ⟨v0, v1, rfl, h⟩ := h
  refine ⟨_, PSs.nox (pss_cons (ps_par (i := 2) (j := 3) (by rfl) sc_gap_between.nd rfl rfl (by decide) rfl rfl (pa_cons (pe_callB call_abs (by rfl) T.b_abs (by decide +kernel) (pa_cons (pe_op op_sub (pe_ix ix_tup (pv 0) pe_int (fun _ _ => rfl)) (pe_ix ix_tup (pv 1) pe_int (fun _ _ => rfl))) pa_nil)) (pa_cons (pe_callB call_abs (by rfl) T.b_abs (by decide +kernel) (pa_cons (pe_op op_sub (pe_ix ix_tup (pv 0) pe_int (fun _ _ => rfl)) (pe_ix ix_tup (pv 1) pe_int (fun _ _ => rfl))) pa_nil)) pa_nil)) (by rfl))
    (pss_one (ps_ret (pe_ifExp (pt_cmpR op_gt (pv 2) (pv 3) (nomark _)) (pv 2) (pv 3))))), ?_⟩
  obtain ⟨la, lb, ⟨ta, rfl, hta⟩, ⟨tb, rfl, htb⟩, q⟩ := h
  refine ⟨_, rfl, ta, _, _, _, rfl, rfl, SqT.of hta, atI_nat (j := 4) rfl, _, rfl, tb, _, _, _, rfl, rfl, SqT.of htb, atI_nat (j := 4) rfl, _, _, rfl, rfl, _, rfl,
    _, rfl, ta, _, _, _, rfl, rfl, SqT.of hta, atI_nat (j := 5) rfl, _, rfl, tb, _, _, _, rfl, rfl, SqT.of htb, atI_nat (j := 5) rfl, _, _, rfl, rfl, _, rfl, _, _, rfl, _, rfl, _, rfl, _, _, rfl, rfl, _, rfl, ?_⟩
  have q' := q
  unfold gapOf at q'
  by_cases g : absI (la.x - lb.x) > absI (la.y - lb.y)
  · rw [if_pos g] at q'
    rw [decide_eq_true (show (if la.y - lb.y < 0 then -(la.y - lb.y) else la.y - lb.y) < (if la.x - lb.x < 0 then -(la.x - lb.x) else la.x - lb.x) from g)]
    exact ⟨_, rfl, q'⟩
  · rw [if_neg g] at q'
    rw [decide_eq_false (show ¬ (if la.y - lb.y < 0 then -(la.y - lb.y) else la.y - lb.y) < (if la.x - lb.x < 0 then -(la.x - lb.x) else la.x - lb.x) from g)]
    exact ⟨_, rfl, q'⟩
end
end SK
set_option maxHeartbeats 4000000
namespace SK
open PySem PySem.Spec PyProof.Rows L2 SL
section
variable {w : World} {K : PySem.W.Frag} {mg : Str → Option Value} {base : Heap}
def spPlace : Sp := sp1 fun v H Q _ => (∃ n, Kn H v n) ∧ Q (.bl (betw v (-99999) 99999)) H
def spWeight : Sp := sp1 fun v H Q _ => (∃ n, Kn H v n) ∧ Q (.bl (betw v 0 9)) H
abbrev n_is_place : List Str := ["value"]
theorem sc_is_place : FnScope n_is_place ["value"] (defScope d_is_place) := ⟨rfl, rfl, rfl, by decide +kernel, rfl, by decide +kernel, by decide +kernel⟩
theorem ok_is_place (T : Top w K mg) : Has prg w K mg base CX0 3 (He.ga K "is_place") ["value"] spPlace := by
  obtain ⟨fd, F⟩ := T.F_is_place
  obtain ⟨fd_is_between, G_is_between, b_is_between, k_is_between⟩ := ok_is_between (base := base) T
  refine ⟨fd, F.ok (k := 2) sc_is_place (fun _ _ _ _ h => sp1_len h) (fun cdv A outer s H vs Q E hr h => ?_), F.bindsN (fun _ _ _ _ _ _ us hl => match us, hl with | [_], _ => rfl), F.kp⟩
  obtain ⟨v0, rfl, h⟩ := h
  refine ⟨_, PSs.nox (pss_one (ps_ret (pe_call G_is_between (hr.mono (by decide)) (by rfl) T.g_is_between k_is_between b_is_between .nil pass0 (pa_cons (pv 0) (pa_cons (pe_un un_neg (pe_cI (by rfl) T.c_MOST_PLACE)) (pa_cons (pe_cI (by rfl) T.c_MOST_PLACE) pa_nil)))))), ?_⟩
  obtain ⟨kn, q⟩ := h
  exact ⟨_, rfl, _, rfl, _, _, _, rfl, -99999, 99999, rfl, rfl, kn, q⟩
abbrev n_is_weight : List Str := ["value"]
theorem sc_is_weight : FnScope n_is_weight ["value"] (defScope d_is_weight) := ⟨rfl, rfl, rfl, by decide +kernel, rfl, by decide +kernel, by decide +kernel⟩
theorem ok_is_weight (T : Top w K mg) : Has prg w K mg base CX0 3 (He.ga K "is_weight") ["value"] spWeight := by
  obtain ⟨fd, F⟩ := T.F_is_weight
  obtain ⟨fd_is_between, G_is_between, b_is_between, k_is_between⟩ := ok_is_between (base := base) T
  refine ⟨fd, F.ok (k := 2) sc_is_weight (fun _ _ _ _ h => sp1_len h) (fun cdv A outer s H vs Q E hr h => ?_), F.bindsN (fun _ _ _ _ _ _ us hl => match us, hl with | [_], _ => rfl), F.kp⟩
  obtain ⟨v0, rfl, h⟩ := h
  refine ⟨_, PSs.nox (pss_one (ps_ret (pe_call G_is_between (hr.mono (by decide)) (by rfl) T.g_is_between k_is_between b_is_between .nil pass0 (pa_cons (pv 0) (pa_cons pe_int (pa_cons (pe_cI (by rfl) T.c_MOST_WEIGHT) pa_nil)))))), ?_⟩
  obtain ⟨kn, q⟩ := h
  exact ⟨_, rfl, _, _, _, rfl, 0, 9, rfl, rfl, kn, q⟩
end
end SK
set_option maxHeartbeats 4000000
namespace SL
open PySem PySem.Spec PyProof.Rows L2
abbrev MT (P : Program) (w : World) (h : Heap) (k : List Key) (a : Addr) : Prop := IsTupleKey (mixKind P w) h k a
abbrev mh (P : Program) (w : World) (k : List Key) : Int := tupleKeyHash (mixKind P w) k
theorem key_noClass {k : Key} {v : Value} (h : keyIs k v = true) (n : Nat) : ofAClassStatement n v = pure false := by
  rcases keyIs_shape h with ⟨i, t, rfl, rfl⟩ | ⟨x, t, rfl, rfl⟩ <;> cases n <;> rfl
theorem key_byVal {k : Key} {v : Value} (h : keyIs k v = true) (n : Nat) : ∃ c, hashByValue n v = pure c := by
  rcases keyIs_shape h with ⟨i, t, rfl, rfl⟩ | ⟨x, t, rfl, rfl⟩
  · exact ⟨true, by cases n <;> rfl⟩
  · exact ⟨false, by cases n <;> rfl⟩
theorem parts_ok {P : Program} {w : World} {k : List Key} {vs : List Value} (h : ItemsAre (mixKind P w) k vs) : ∀ v ∈ vs, ∃ q, keyIs q v = true := by
  induction h with
  | nil => exact fun v hv => absurd hv (by simp)
  | cons h1 _ ih =>
    intro v hv
    cases hv with
    | head => exact ⟨_, h1⟩
    | tail _ hv => exact ih v hv
theorem still {β : Type} {M : Model} {A : Around} {E : Value → Shared → Prop} {s : Shared} {Q : β → Shared → Prop} (f : Value → β → Sem (ForInStep β)) (b : β) : ∀ (l : List Value),
    (∀ v ∈ l, ∀ {R : ForInStep β → Shared → Prop}, R (.yield b) s → wpAny M A (f v b) R E s) → Q b s → wpAny M A (forIn l b f) Q E s := by
  intro l hf q
  refine wpAny_forIn_list f (fun rest r s' => r = b ∧ s' = s ∧ ∀ v ∈ rest, v ∈ l) Q ?_ ?_ l b ⟨rfl, rfl, fun _ h => h⟩
  · intro v rest r s' h
    obtain ⟨h1, h2, h3⟩ := h
    subst h1 h2
    exact hf v (h3 v (by simp)) ⟨rfl, rfl, fun u hu => h3 u (by simp [hu])⟩
  · intro r s' h
    obtain ⟨h1, h2, _⟩ := h
    subst h1 h2
    exact q
section
variable {P : Program} {w : World} {A : Around} {E : Value → Shared → Prop} {s : Shared}
theorem mt_noClass {k : List Key} {b : Addr} {Q : Bool → Shared → Prop} (hk : MT P w s.heap k b) (q : Q false s) : wpAny (model P w) A (ofAClassStatement 8 (.ref b)) Q E s := by
  have ty := hk.typeIs
  obtain ⟨o, its, n, ho, hc, hd, hi⟩ := hk
  have ps := parts_ok hi
  unfold ofAClassStatement
  refine wpAny_bind (wpAny_typeOf ty ?_)
  have et : (("tuple" : String) == "tuple") = true := rfl
  simp only [et, if_true, Bool.not_true, Bool.false_eq_true, if_false]
  try refine wpAny_bind (wpAny_pure ?_)
  refine wpAny_bind (wpAny_seqItems ho hd ?_)
  refine wpAny_bind ?_
  show wpAny _ _ (forIn its _ _) _ _ s
  rw [← Array.forIn_toList]
  refine still _ _ its.toList (fun v hv R r => ?_) ?_
  · obtain ⟨c, hc⟩ := ps v hv
    rw [key_noClass hc]
    exact wpAny_bind (wpAny_pure (wpAny_pure r))
  · exact wpAny_pure q
theorem mt_byVal {k : List Key} {b : Addr} {Q : Bool → Shared → Prop} (hk : MT P w s.heap k b) (q : ∀ c, Q c s) : wpAny (model P w) A (hashByValue 8 (.ref b)) Q E s := by
  have ty := hk.typeIs
  obtain ⟨o, its, n, ho, hc, hd, hi⟩ := hk
  have ps := parts_ok hi
  unfold hashByValue
  refine wpAny_bind (wpAny_specialOf ty F.slot_tuple_hash.lookup ?_)
  refine wpAny_bind (m := seqItems? (.ref b)) (wpAny_seqItems ho hd ?_)
  refine wpAny_bind ?_
  show wpAny _ _ (forIn its _ _) _ _ s
  rw [← Array.forIn_toList]
  refine wpAny_forIn_list _ (fun rest r s' => s' = s ∧ r.1 = none ∧ ∀ v ∈ rest, v ∈ its.toList) _ ?_ ?_ _ _ ⟨rfl, rfl, fun _ h => h⟩
  · intro v rest r s' h
    obtain ⟨h1, h2, h3⟩ := h
    subst h1
    obtain ⟨kc, hkc⟩ := ps v (h3 v (by simp))
    obtain ⟨c, e⟩ := key_byVal hkc 7
    rw [e]
    refine wpAny_bind (wpAny_pure ?_)
    cases c with
    | true =>
      refine wp_if_neg (by decide) (wpAny_pure ?_)
      exact ⟨rfl, rfl, fun u hu => h3 u (by simp [hu])⟩
    | false =>
      refine wp_if_pos (by decide) (wpAny_pure ?_)
      exact wpAny_pure (q false)
  · intro r s' h
    obtain ⟨h1, h2, _⟩ := h
    subst h1
    obtain ⟨r1, r2⟩ := r
    cases h2
    exact wpAny_pure (q true)
theorem mt_unseen {k : List Key} {b : Addr} {Q : Bool → Shared → Prop} (hk : MT P w s.heap k b) {ys : List Value} (hy : ∀ y ∈ ys, ∃ c k', y = Value.ref c ∧ MT P w s.heap k' c) (q : Q false s) : wpAny (model P w) A (searchCouldBeSeen (.ref b) ys) Q E s := by
  unfold searchCouldBeSeen
  refine wpAny_bind ?_
  refine still _ _ ys (fun v hv R r => ?_) ?_
  · obtain ⟨c, k', rfl, hc⟩ := hy v hv
    by_cases e : (b == c || (carriedByValue (.ref b) && carriedByValue (.ref c))) = true
    · exact wp_if_pos e (wpAny_pure r)
    · refine wp_if_neg e (wpAny_bind (wpAny_eqIsQuiet_tuple hk ?_))
      refine wp_if_neg (by decide) (wpAny_bind (wpAny_eqIsQuiet_tuple hc ?_))
      refine wp_if_neg (by decide) (wpAny_bind (mt_noClass hk ?_))
      refine wp_if_neg (by decide) (wpAny_bind (mt_noClass hc ?_))
      exact wp_if_neg (by decide) (wpAny_pure r)
  · exact wpAny_pure q
end
end SL
set_option maxHeartbeats 4000000
namespace SL
open PySem PySem.Spec PyProof.Rows L2
def rowM (P : Program) (w : World) (p : Addr × List Key) : Int × Value := (mh P w p.2, .ref p.1)
structure SetM (P : Program) (w : World) (h : Heap) (a : Addr) (L : List (Addr × List Key)) (es : Array (Int × Value)) (ep : Nat) (t : SetTable) : Prop where
  ob : ∃ o, h.get? a = some o ∧ o.ExactSet ∧ o.data = .set es ep t
  rw' : es.toList = L.map (rowM P w)
  tb : TabOk t (L.map fun p => mh P w p.2)
  nd : (L.map (·.2)).Nodup
  mt : ∀ p ∈ L, MT P w h p.2 p.1
  ld : w.params.followText "set-order" = true ∨ t.led = true
  ro : L.length * 5 < t.mask * 3
  fw : L.length < 64
def stp (m : Nat) (h : Int) (c : Nat) : SetTable.Probe := nth m (runAt m (SetTable.bits h % (m + 1)) (SetTable.bits h)) c
theorem stp_on (m : Nat) (h : Int) (c q : Nat) : nth m (stp m h c) q = stp m h (c + q) := (nth_add m c _ q).symm
theorem nth_dummy (m : Nat) : ∀ (n : Nat) (p : SetTable.Probe), p.dummy = none → (nth m p n).dummy = none
  | 0, p, h => h
  | n + 1, p, h => nth_dummy m n (adv m p) (by unfold adv; split <;> exact h)
section
variable {P : Program} {w : World} {A : Around} {E : Value → Shared → Prop} {s : Shared} {a : Addr} {L : List (Addr × List Key)} {es : Array (Int × Value)} {ep : Nat} {t : SetTable}
theorem SetM.len {h : Heap} (R : SetM P w h a L es ep t) : es.size = L.length := by
  rw [← Array.length_toList, R.rw', List.length_map]
theorem SetM.pl {h : Heap} (R : SetM P w h a L es ep t) : t.place.toList.length = L.length := by
  rw [Array.length_toList, R.tb.sz, List.length_map]
theorem SetM.fit {h : Heap} (R : SetM P w h a L es ep t) : t.fits es.size = true := by
  have h1 := R.tb.sz
  have h2 := R.ro
  have h3 := R.len
  rw [List.length_map] at h1
  have h4 : t.fill = t.place.size := by
    unfold SetTable.fill
    rw [R.tb.dm]
    rfl
  unfold SetTable.fits
  rw [h4, h1, h3, beq_self_eq_true, Bool.true_and]
  exact decide_eq_true (by omega)
theorem SetM.at {h : Heap} (R : SetM P w h a L es ep t) {i : Nat} {p : Addr × List Key} (e : L[i]? = some p) : es[i]? = some (rowM P w p) := by
  rw [← Array.getElem?_toList, R.rw', List.getElem?_map, e]
  rfl
theorem SetM.whole {h : Heap} (R : SetM P w h a L es ep t) : ¬ t.gaveWay = true := by
  unfold SetTable.gaveWay
  rw [mask_odd R.tb.mok]
  decide
theorem SetM.find (R : SetM P w s.heap a L es ep t) {x : Addr} {k : List Key} (hx : MT P w s.heap k x) (hu : A.units < cLine) {K : Nat} (hK : K < 10 * SetTable.turns t.mask)
    (free : (stp t.mask (mh P w k) K).j ∉ t.place.toList) (full : ∀ c, c < K → (stp t.mask (mh P w k) c).j ∈ t.place.toList) {Q : SetFound → Shared → Prop}
    (there : k ∈ L.map (·.2) → Q (.there none) s) (away : k ∉ L.map (·.2) → Q (.free (stp t.mask (mh P w k) K).j false) s) :
    ∀ (f c : Nat) (stand : Option SetTable.Probe), stand.getD (t.probeStart (mh P w k)) = stp t.mask (mh P w k) c → c ≤ K → K < c + f →
      (∀ (i : Nat) p, L[i]? = some p → p.2 = k → ∀ c', t.place.toList[i]? = some (stp t.mask (mh P w k) c').j → c ≤ c') →
      wpAny (model P w) A (setSearchFrom a (.ref x) (mh P w k) true f stand) Q E s := by
  intro f
  induction f with
  | zero => intro c stand _ h1 h2; omega
  | succ f ih =>
    intro c stand hst hc hf new
    obtain ⟨o, ho, hex, hd⟩ := R.ob
    have hashAt : ∀ (i : Nat) p, L[i]? = some p → (es[i]?.map (·.1)).getD 0 = mh P w p.2 := fun i p e => by rw [R.at e]; rfl
    have placed : ∀ (i : Nat) p, L[i]? = some p → ∃ j, t.place.toList[i]? = some j := fun i p e => ⟨_, List.getElem?_eq_getElem (by rw [R.pl]; exact (List.getElem?_eq_some_iff.mp e).1)⟩
    have entry : ∀ i j, t.place.toList[i]? = some j → ∃ p, L[i]? = some p := fun i j e => ⟨_, List.getElem?_eq_getElem (by rw [← R.pl]; exact (List.getElem?_eq_some_iff.mp e).1)⟩
    rw [setSearchFrom_succ]
    refine wpAny_bind (wpAny_setState_of ho hd R.fit ?_)
    dsimp only
    refine wp_if_neg R.whole ?_
    try refine wpAny_bind (wpAny_pure ?_)
    have sp := go_spec t R.tb.ris R.tb.dm (fun i => (es[i]?.map (·.1)).getD 0) (mh P w k) (10 * SetTable.turns t.mask) (K - c) (stp t.mask (mh P w k) c) (nth_dummy _ c _ rfl) (by omega)
      (fun q hq => by rw [stp_on]; exact full _ (by omega)) (by rw [stp_on, show c + (K - c) = K by omega]; exact free)
    simp only [stp_on] at sp
    rw [show c + (K - c) = K by omega] at sp
    rcases sp with ⟨q, i, hq, hi, hh, hno, hgo⟩ | ⟨hno, hgo⟩
    · have hpr : t.probe (fun i => (es[i]?.map (·.1)).getD 0) (mh P w k) (stand.getD (t.probeStart (mh P w k))) = some (.candidate (stp t.mask (mh P w k) (c + q)).j i (stp t.mask (mh P w k) (c + (q + 1)))) := by
        rw [hst]
        exact hgo
      rw [hpr]
      dsimp only
      obtain ⟨p, hp⟩ := entry i _ hi
      have hm := List.mem_of_getElem? hp
      have go : wpAny (model P w) A (searchRest a (.ref x) (mh P w k) true f es t (stp t.mask (mh P w k) (c + q)).j i (stp t.mask (mh P w k) (c + (q + 1)))) Q E s := by
        unfold searchRest
        rw [R.at hp]
        refine wpAny_bind (m := holding [Value.ref p.1] (eqBool (Value.ref p.1) (Value.ref x))) (wpAny_holding (wpAny_eqBool_tuple hu (R.mt p hm) hx ?_))
        refine wpAny_bind (wpAny_setState_of ho hd R.fit ?_)
        dsimp only
        by_cases e : p.2 = k
        · rw [decide_eq_true e]
          exact wp_if_pos rfl (wpAny_pure (there (List.mem_map.mpr ⟨p, hm, e⟩)))
        · rw [decide_eq_false e]
          refine wp_if_neg (by decide) ?_
          try refine wpAny_bind (wpAny_pure ?_)
          have hsl : t.slot (stp t.mask (mh P w k) (c + q)).j = .live i := slot_live R.tb.ris hi
          rw [sameMem]
          simp only [if_true, hsl, R.at hp]
          refine wpAny_bind (wpAny_isSame_ref_self (wpAny_bind (wpAny_pure ?_)))
          simp only [if_true]
          refine wp_if_neg (by decide) (ih (c + (q + 1)) _ rfl (by omega) (by omega) fun i' p' h1 h2 c' h3 => ?_)
          have h4 := new i' p' h1 h2 c' h3
          by_cases h5 : c' < c + q
          · refine absurd ?_ (hno (c' - c) i' (by omega) (by rw [show c + (c' - c) = c' by omega]; exact h3))
            rw [← h2]
            exact hashAt i' p' h1
          · by_cases h6 : c' = c + q
            · have h7 := slot_live R.tb.ris h3
              rw [h6, hsl] at h7
              injection h7 with h7
              rw [← h7, hp] at h1
              cases h1
              exact absurd h2 e
            · omega
      by_cases hl : t.led = true
      · refine wp_if_neg (by rw [hl]; decide) ?_
        try refine wpAny_bind (wpAny_pure ?_)
        exact go
      · refine wp_if_pos (by simp [hl]) (wpAny_bind (mt_unseen hx (fun y hy => ?_) ?_))
        · obtain ⟨r, hr, rfl⟩ := List.mem_map.mp hy
          have hr2 : r ∈ es.toList := by
            have := (Array.mem_filter.mp (Array.mem_toList_iff.mp hr)).1
            exact Array.mem_toList_iff.mpr this
          rw [R.rw'] at hr2
          obtain ⟨p2, h2, rfl⟩ := List.mem_map.mp hr2
          exact ⟨p2.1, p2.2, rfl, R.mt p2 h2⟩
        · refine wp_if_neg (by decide) ?_
          try refine wpAny_bind (wpAny_pure ?_)
          exact go
    · have hpr : t.probe (fun i => (es[i]?.map (·.1)).getD 0) (mh P w k) (stand.getD (t.probeStart (mh P w k))) = some (.empty (stp t.mask (mh P w k) K).j none) := by
        rw [hst]
        exact hgo
      rw [hpr]
      refine wpAny_pure (away fun hm => ?_)
      obtain ⟨p, hpm, e⟩ := List.mem_map.mp hm
      obtain ⟨i, hil, hie⟩ := List.getElem_of_mem hpm
      have hp : L[i]? = some p := by rw [List.getElem?_eq_getElem hil, hie]
      obtain ⟨j, hj⟩ := placed i p hp
      obtain ⟨c', h1, h2⟩ := R.tb.before (h := mh P w k) (K := K) free (i := i) (j := j) (by rw [List.getElem?_map, hp, ← e]; rfl) hj
      have h2 : (stp t.mask (mh P w k) c').j = j := h2
      have h3 := new i p hp e c' (by rw [h2]; exact hj)
      refine absurd ?_ (hno (c' - c) i (by omega) (by rw [show c + (c' - c) = c' by omega, h2]; exact hj))
      rw [← e]
      exact hashAt i p hp
end
end SL
set_option maxHeartbeats 4000000
namespace SL
open PySem PySem.Spec PyProof.Rows L2
theorem tab_like {t u : SetTable} {hs : List Int} (T : TabOk t hs) (h1 : u.place = t.place) (h2 : u.dummies = t.dummies) (h3 : u.mask = t.mask) : TabOk u hs := by
  refine ⟨by rw [h1]; exact T.ris, by rw [h2]; exact T.dm, by rw [h1]; exact T.sz, by rw [h3]; exact T.mok, by rw [h1, h3]; exact T.bd, fun i h j e1 e2 => ?_⟩
  rw [h1] at e2
  obtain ⟨k, e3, e4⟩ := T.reach i h j e1 e2
  exact ⟨k, by rw [h3]; exact e3, fun k' hk => by rw [h1, h3]; exact e4 k' hk⟩
theorem all_range {α : Type} (L : List α) : (List.range L.length).filterMap (fun i => L[i]?) = L := by
  induction L with
  | nil => rfl
  | cons x r ih =>
    rw [List.length_cons, List.range_succ_eq_map, List.filterMap_cons, List.filterMap_map]
    exact congrArg (x :: ·) ih
section
variable {P : Program} {w : World} {A : Around} {E : Value → Shared → Prop} {s : Shared} {a : Addr} {L : List (Addr × List Key)} {es : Array (Int × Value)} {ep : Nat} {t : SetTable}
theorem mt_but {h h' : Heap} {k : List Key} {a b : Addr} {o : Obj} {es : Array (Int × Value)} {ep : Nat} {t : SetTable} (m : MT P w h k b) (ho : h.get? a = some o) (hd : o.data = .set es ep t) (sb : Heap.SameBut a h h') : MT P w h' k b := by
  obtain ⟨o', its, n, h1, h2, h3, h4⟩ := m
  have ne : b ≠ a := fun e => by
    rw [e, ho] at h1
    cases h1
    rw [hd] at h3
    cases h3
  exact ⟨o', its, n, by rw [sb.2 b ne]; exact h1, h2, h3, h4⟩
theorem rows_order {es : Array (Int × Value)} {L : List (Addr × List Key)} (e : es.toList = L.map (rowM P w)) {order : Array Nat} (hp : order.toList.Perm (List.range L.length)) :
    ∃ L' : List (Addr × List Key), (order.filterMap (es[·]?)).toList = L'.map (rowM P w) ∧ L'.Perm L ∧ (order.toList.map fun i => (es.map (·.1)).getD i 0) = L'.map fun p => mh P w p.2 := by
  have at' : ∀ i, es[i]? = (L[i]?).map (rowM P w) := fun i => by rw [← Array.getElem?_toList, e, List.getElem?_map]
  refine ⟨order.toList.filterMap fun i => L[i]?, ?_, ?_, ?_⟩
  · rw [Array.toList_filterMap, List.map_filterMap]
    exact congrArg (fun f => List.filterMap f order.toList) (funext fun i => at' i)
  · have := hp.filterMap fun i => L[i]?
    rwa [all_range] at this
  · have key : ∀ l : List Nat, (∀ i ∈ l, i < L.length) → (l.map fun i => (es.map (·.1)).getD i 0) = (l.filterMap fun i => L[i]?).map fun p => mh P w p.2 := by
      intro l
      induction l with
      | nil => intro _; rfl
      | cons i r ih =>
        intro hl
        have hi := List.getElem?_eq_getElem (hl i (by simp))
        rw [List.filterMap_cons_some hi, List.map_cons, List.map_cons, ih fun j hj => hl j (by simp [hj])]
        congr 1
        have e2 : (es.map (·.1))[i]? = some (mh P w (L[i]'(hl i (by simp))).2) := by
          rw [Array.getElem?_map, at', hi]
          rfl
        rw [Array.getD_eq_getD_getElem?, e2]
        rfl
    exact key _ fun i hi => List.mem_range.mp (hp.mem_iff.mp hi)
theorem relay_m {o : Obj} (ho : s.heap.get? a = some o) (hex : o.ExactSet) (hd : o.data = .set es ep t) (hr : es.toList = L.map (rowM P w)) (tb : TabOk t (L.map fun p => mh P w p.2)) (hfl : L.length ≤ t.mask)
    (nd : (L.map (·.2)).Nodup) (mt : ∀ p ∈ L, MT P w s.heap p.2 p.1) (ld : w.params.followText "set-order" = true ∨ t.led = true) (few : L.length < 64) {wanted M : Nat}
    (hw : SetTable.sizeAbove wanted = M + 1) (hM : MaskOk M) (hn : L.length * 5 < M * 3) {Q : Unit → Shared → Prop}
    (q : ∀ h' L' es' ep' t', Heap.SameBut a s.heap h' → SetM P w h' a L' es' ep' t' → L'.Perm L → Q () { s with heap := h' }) : wpAny (model P w) A (setRelay a wanted) Q E s := by
  have hl : es.size = L.length := by rw [← Array.length_toList, hr, List.length_map]
  have hps : t.place.size = L.length := by rw [tb.sz, List.length_map]
  have fit : t.fits es.size = true := by
    have h4 : t.fill = t.place.size := by
      unfold SetTable.fill
      rw [tb.dm]
      rfl
    unfold SetTable.fits
    rw [h4, hps, hl, beq_self_eq_true, Bool.true_and]
    exact decide_eq_true hfl
  have hM2 : M ≤ 127 := by rcases hM with e | e | e <;> omega
  obtain ⟨t', order, e1, e2, e3, e4, e5, _, _⟩ := relaid_ok t (hs := es.map (·.1)) (wanted := wanted) (M := M) (by omega) hM (by rw [Array.size_map, hl]; omega)
  rw [Array.size_map, hl] at e2
  obtain ⟨L', r1, r2, r3⟩ := rows_order hr e2
  rw [r3] at e3
  have hl2 : (order.filterMap (es[·]?)).size = es.size := by rw [← Array.length_toList, r1, List.length_map, r2.length_eq, hl]
  rw [setRelay_eq]
  refine wpAny_bind (wpAny_setState_of ho hd fit ?_)
  dsimp only
  refine wp_if_neg (by rw [hw, sizeLine_eq]; omega) ?_
  try refine wpAny_bind (wpAny_pure ?_)
  rw [e1]
  refine wpAny_bind (m := if ((order.filterMap (es[·]?)).size != es.size) = true then _ else _) ?_
  refine wp_if_neg (by rw [hl2]; simp) ?_
  try refine wpAny_bind (wpAny_pure ?_)
  refine wpAny_pure (wpAny_storeSet_of ho hd ?_ (by rw [hl2, hl, sizeLine_eq]; omega))
  have sb : Heap.SameBut a s.heap (s.heap.update a (Obj.putSet (order.filterMap (es[·]?)) t')) := Heap.SameBut.update ..
  exact q _ L' _ _ t' sb ⟨⟨_, store_at ho hd, ⟨hex.1, hex.2.1, hex.2.2⟩, rfl⟩, r1, e3, (r2.map (·.2)).nodup_iff.mpr nd, fun p hp => mt_but (mt p (r2.mem_iff.mp hp)) ho hd sb, by rw [e5]; exact ld, by rw [r2.length_eq, e4]; exact hn, by rw [r2.length_eq]; exact few⟩ r2
theorem SetM.add (R : SetM P w s.heap a L es ep t) {x : Addr} {k : List Key} (hx : MT P w s.heap k x) (hu : A.units < cLine) (few : L.length + 1 < 64) {Q : Bool → Shared → Prop}
    (q : ∀ b h' L' es' ep' t', Heap.SameBut a s.heap h' → SetM P w h' a L' es' ep' t' → (k ∈ L.map (·.2) → L' = L) → (k ∉ L.map (·.2) → L'.Perm ((x, k) :: L)) → Q b { s with heap := h' }) :
    wpAny (model P w) A (setAddHashed a (.ref x) (mh P w k)) Q E s := by
  obtain ⟨o, ho, hex, hd⟩ := R.ob
  have hro := R.ro
  have hlen := R.len
  obtain ⟨K, hK, free, full⟩ := R.tb.first (by rw [List.length_map]; omega) (mh P w k)
  have hturn : 10 * SetTable.turns t.mask ≤ 1420 := by
    unfold SetTable.turns
    rcases R.tb.mok with e | e | e <;> omega
  unfold setAddHashed
  refine wpAny_holding ?_
  rw [show (100000 : Nat) = 99999 + 1 from rfl, setAddHashedIn_succ]
  refine wpAny_bind (wpAny_setState_of ho hd R.fit ?_)
  dsimp only
  refine wp_if_neg (by simp [byScan, Value.scannable]) ?_
  try refine wpAny_bind (wpAny_pure ?_)
  refine wpAny_bind ?_
  unfold setSearch
  refine R.find hx hu (K := K) hK free full (fun hm => ?_) (fun hm => ?_) 100000 0 none rfl (Nat.zero_le _) (by omega) (fun _ _ _ _ _ _ => Nat.zero_le _)
  · exact wpAny_pure (q false s.heap L es ep t (Heap.SameBut.refl a s.heap) R (fun _ => rfl) fun z => absurd hm z)
  have fr : (stp t.mask (mh P w k) K).j = way t.mask (mh P w k) K := rfl
  rw [fr]
  refine wpAny_bind (m := setState a) (wpAny_setState_of ho hd R.fit ?_)
  obtain ⟨c1, c2, c3, c4, c5, _, _, _, c9⟩ := R.tb.put free full
  rw [List.length_map] at c2 c9
  generalize hpt : t.put (way t.mask (mh P w k) K) = pt at c1 c3 c4 c5 c9
  obtain ⟨t1, p⟩ := pt
  dsimp only at c1 c3 c4 c5 c9
  subst c1
  generalize SetTable.below t.place (way t.mask (mh P w k) K) = p at c2 c3 hpt
  have tail : ∀ t2 : SetTable, t2.place = t1.place → t2.dummies = t1.dummies → t2.mask = t1.mask → t2.led = t1.led →
      wpAny (model P w) A (storeSet a (SetTable.insertAt es p (mh P w k, Value.ref x)) t2 >>= fun _ => if (!false && t2.tooFull) = true then (setRelay a (SetTable.grown (es.size + 1)) >>= fun _ => pure true) else pure true) Q E s := fun t2 g1 g2 g3 g4 => by
    have g5 : t2.fill = t1.fill := by
      unfold SetTable.fill
      rw [g1, g2]
    have T2 := tab_like c3 g1 g2 g3
    have pm : (L.take p ++ (x, k) :: L.drop p).Perm ((x, k) :: L) := by
      have : (L.take p ++ (x, k) :: L.drop p).Perm ((x, k) :: (L.take p ++ L.drop p)) := List.perm_middle
      rwa [List.take_append_drop] at this
    have hrows : (SetTable.insertAt es p (mh P w k, Value.ref x)).toList = (L.take p ++ (x, k) :: L.drop p).map (rowM P w) := by
      rw [SetTable.toList_insertAt, R.rw', List.map_append, List.map_cons, List.map_take, List.map_drop]
      rfl
    have hT : (L.map fun p => mh P w p.2).take p ++ mh P w k :: (L.map fun p => mh P w p.2).drop p = (L.take p ++ (x, k) :: L.drop p).map fun p => mh P w p.2 := by
      rw [List.map_append, List.map_cons, List.map_take, List.map_drop]
    rw [hT] at T2
    have nd : ((L.take p ++ (x, k) :: L.drop p).map (·.2)).Nodup := (pm.map (·.2)).nodup_iff.mpr (List.nodup_cons.mpr ⟨hm, R.nd⟩)
    generalize L.take p ++ (x, k) :: L.drop p = L1 at pm hrows T2 nd
    have hl1 : L1.length = L.length + 1 := pm.length_eq
    have hs1 : (SetTable.insertAt es p (mh P w k, Value.ref x)).size = L.length + 1 := by rw [← Array.length_toList, hrows, List.length_map, hl1]
    generalize SetTable.insertAt es p (mh P w k, Value.ref x) = es1 at hrows hs1
    refine wpAny_bind (wpAny_storeSet_of ho hd ?_ (by rw [hs1, sizeLine_eq]; omega))
    have sb : Heap.SameBut a s.heap (s.heap.update a (Obj.putSet es1 t2)) := Heap.SameBut.update ..
    have ho1 := store_at (es' := es1) (t' := t2) ho hd
    generalize s.heap.update a (Obj.putSet es1 t2) = h1 at sb ho1 ⊢
    have mt1 : ∀ p ∈ L1, MT P w h1 p.2 p.1 := fun p hp => by
      rcases List.mem_cons.mp (pm.mem_iff.mp hp) with e | e
      · rw [e]
        exact mt_but hx ho hd sb
      · exact mt_but (R.mt p e) ho hd sb
    have ld1 : w.params.followText "set-order" = true ∨ t2.led = true := by rw [g4, c5]; exact R.ld
    by_cases hf : t2.tooFull = true
    · have hfu : (L.length + 1) * 5 ≥ t.mask * 3 := by
        have h := hf
        unfold SetTable.tooFull at h
        rw [decide_eq_true_eq, g5, c9, g3, c4] at h
        exact h
      have fin : ∀ M, SetTable.sizeAbove (SetTable.grown (L.length + 1)) = M + 1 → MaskOk M → (L.length + 1) * 5 < M * 3 → wpAny (model P w) A (setRelay a (SetTable.grown (es.size + 1))) (fun _ s' => wpAny (model P w) A (pure true) Q E s') E { s with heap := h1 } := fun M m1 m2 m3 => by
        rw [hlen]
        refine relay_m (s := { s with heap := h1 }) ho1 ⟨hex.1, hex.2.1, hex.2.2⟩ rfl hrows T2 (by rw [hl1, g3, c4]; omega) nd mt1 ld1 (by rw [hl1]; exact few) m1 m2 (by rw [hl1]; exact m3) fun h2 L2 es2 ep2 t2' sb2 R2 pm2 => ?_
        exact wpAny_pure (q true h2 L2 es2 ep2 t2' (sb.trans sb2) R2 (fun z => absurd z hm) fun _ => pm2.trans pm)
      refine wp_if_pos (by rw [hf]; rfl) (wpAny_bind ?_)
      rcases R.tb.mok with e | e | e
      · have e4 : L.length = 4 := by omega
        exact fin 31 (by rw [e4, size_20]) (.inr (.inl rfl)) (by omega)
      · have e4 : L.length = 18 := by omega
        exact fin 127 (by rw [e4, size_76]) (.inr (.inr rfl)) (by omega)
      · omega
    · refine wp_if_neg (by simp [hf]) (wpAny_pure ?_)
      refine q true h1 L1 es1 (ep + 1) t2 sb ⟨⟨_, ho1, ⟨hex.1, hex.2.1, hex.2.2⟩, rfl⟩, hrows, T2, nd, mt1, ld1, ?_, by rw [hl1]; exact few⟩ (fun z => absurd z hm) fun _ => pm
      have h := hf
      unfold SetTable.tooFull at h
      rw [decide_eq_true_eq, g5, c9, g3, c4] at h
      rw [hl1, g3, c4]
      omega
  dsimp only
  by_cases hpl : t1.plain = true
  · refine wp_if_pos hpl (wpAny_bind (mt_byVal hx fun c => ?_))
    cases c with
    | true => exact tail t1 rfl rfl rfl rfl
    | false => exact tail { t1 with plain := false } rfl rfl rfl rfl
  · refine wp_if_neg hpl (wpAny_bind (wpAny_pure ?_))
    exact tail t1 rfl rfl rfl rfl
end
end SL
set_option maxHeartbeats 4000000
namespace SL
open PySem PySem.Spec PyProof.Rows L2
structure Took (ks : List (Addr × List Key)) (i : Nat) (L : List (Addr × List Key)) : Prop where
  of : ∀ p ∈ L, p ∈ ks.take i
  al : ∀ p ∈ ks.take i, p.2 ∈ L.map (·.2)
  le : L.length ≤ i
theorem Took.start (ks : List (Addr × List Key)) : Took ks 0 [] := ⟨fun p h => absurd h (by simp), fun p h => absurd h (by simp), Nat.zero_le _⟩
theorem Took.next {ks L L' : List (Addr × List Key)} {i : Nat} {p : Addr × List Key} (g : Took ks i L) (h : ks[i]? = some p) (h1 : p.2 ∈ L.map (·.2) → L' = L) (h2 : p.2 ∉ L.map (·.2) → L'.Perm (p :: L)) : Took ks (i + 1) L' := by
  have e : ks.take (i + 1) = ks.take i ++ [p] := by rw [List.take_succ, h]; rfl
  by_cases c : p.2 ∈ L.map (·.2)
  · rw [h1 c]
    refine ⟨fun r hr => ?_, fun r hr => ?_, Nat.le_succ_of_le g.le⟩
    · rw [e]
      exact List.mem_append_left _ (g.of r hr)
    · rw [e] at hr
      rcases List.mem_append.mp hr with hr | hr
      · exact g.al r hr
      · rw [List.mem_singleton.mp hr]
        exact c
  · have pm := h2 c
    refine ⟨fun r hr => ?_, fun r hr => ?_, ?_⟩
    · rw [e]
      rcases List.mem_cons.mp (pm.mem_iff.mp hr) with hr | hr
      · rw [hr]
        exact List.mem_append_right _ (by simp)
      · exact List.mem_append_left _ (g.of r hr)
    · rw [(pm.map (·.2)).mem_iff, List.map_cons]
      rw [e] at hr
      rcases List.mem_append.mp hr with hr | hr
      · exact List.mem_cons_of_mem _ (g.al r hr)
      · rw [List.mem_singleton.mp hr]
        exact List.mem_cons_self
    · have := g.le
      rw [pm.length_eq, List.length_cons]
      omega
section
variable {P : Program} {w : World} {A : Around} {E : Value → Shared → Prop} {s : Shared} {a : Addr} {L : List (Addr × List Key)} {es : Array (Int × Value)} {ep : Nat} {t : SetTable}
theorem mt_kept {h h' : Heap} {k : List Key} {b : Addr} (m : MT P w h k b) (kp : ∀ c o, h.get? c = some o → h'.get? c = some o) : MT P w h' k b := by
  obtain ⟨o, its, n, h1, h2⟩ := m
  exact ⟨o, its, n, kp b o h1, h2⟩
theorem SetM.kept {h h' : Heap} (R : SetM P w h a L es ep t) (ha : ∀ o, h.get? a = some o → h'.get? a = some o) (hm : ∀ p ∈ L, MT P w h' p.2 p.1) : SetM P w h' a L es ep t := by
  obtain ⟨o, h1, h2⟩ := R.ob
  exact ⟨⟨o, ha o h1, h2⟩, R.rw', R.tb, R.nd, hm, R.ld, R.ro, R.fw⟩
abbrev setNil (w : World) : Obj := { cls := .type "set", dict := none, data := .set #[] 0 (.fresh 0 0 (!w.params.followText "set-order")) }
theorem SetM.nil {h : Heap} (e : h.get? a = some (setNil w)) : SetM P w h a [] #[] 0 (.fresh 0 0 (!w.params.followText "set-order")) := by
  refine ⟨⟨_, e, ⟨rfl, rfl, rfl⟩, rfl⟩, rfl, ⟨List.Pairwise.nil, rfl, rfl, .inl rfl, fun x hx => ?_, fun i h j hi => ?_⟩, List.nodup_nil, fun p hp => absurd hp (by simp), ?_, (by show 0 * 5 < 7 * 3; decide), (by show 0 < 64; decide)⟩
  · cases hx
  · simp at hi
  · cases hb : w.params.followText "set-order" with
    | true => exact .inl rfl
    | false => exact .inr rfl
theorem updM {I : Addr} {fp wr : List Addr} {G : Array GenState → Array GenState → Prop} {n : Nat} {Pv : Nat → Value → Prop} {St : Nat → Shared → Prop} {R : Result → Shared → Prop}
    (W : WalksS P w A.in1 I fp wr G n Pv St) (S : Addr) (hSf : S ∉ fp) (ks : List (Addr × List Key)) (hn : n = ks.length) (few : ks.length < 64) (val : ∀ i v, Pv i v → ∃ p, ks[i]? = some p ∧ v = .ref p.1)
    (h0 : Heap) (hk : ∀ p ∈ ks, MT P w h0 p.2 p.1) (z0 : ∀ b, b = S ∨ b ∈ wr → h0.get? b = none) (hu : A.in1.units < cLine) :
    ∀ (m i : Nat) (s : Shared), i + m = n → St i s → (∀ b o, h0.get? b = some o → s.heap.get? b = some o) → (∃ L es ep t, SetM P w s.heap S L es ep t ∧ Took ks i L) →
      (∀ s' L es ep t, Moved (S :: wr) G s s' → SetM P w s'.heap S L es ep t → Took ks n L → (∀ b o, h0.get? b = some o → s'.heap.get? b = some o) → R (.ok (.ret .none)) s') →
      codeAny (model P w) A (.builtin "set.update.loop" ⟨[.ref S, .ref I], []⟩) R s := by
  have nSw : S ∉ wr := fun z => hSf (W.sub _ z)
  have more : ∀ b ∈ wr, b ∈ S :: wr := fun b hb => List.mem_cons_of_mem _ hb
  have stays : ∀ {u v : Shared}, Moved wr G u v → (∀ b o, h0.get? b = some o → u.heap.get? b = some o) → ∀ b o, h0.get? b = some o → v.heap.get? b = some o := fun mv kp b o e => by
    refine mv.heap b o (fun hb => ?_) (kp b o e)
    rw [z0 b (.inr hb)] at e
    cases e
  intro m
  induction m with
  | zero =>
    rintro i s hi st kp ⟨L, es, ep, t, RS, g⟩ fin
    have hi : i = n := hi
    subst hi
    refine codeAny_builtin F.entry_set_update_loop ?_
    rw [Around.under_plainId F.plain_set_update_loop]
    show wpAny _ A.in1 (pyNext (.ref I) >>= _) _ _ s
    refine wpAny_bind (W.done s _ _ st fun s1 mv => ?_)
    have kp1 := stays mv kp
    refine wpAny_pure (fin s1 L es ep t (mv.mono more) (RS.kept (fun o e => mv.heap S o nSw e) fun p hp => mt_kept (hk p (List.mem_of_mem_take (g.of p hp))) kp1) g kp1)
  | succ m ih =>
    rintro i s hi st kp ⟨L, es, ep, t, RS, g⟩ fin
    refine codeAny_builtin F.entry_set_update_loop ?_
    rw [Around.under_plainId F.plain_set_update_loop]
    show wpAny _ A.in1 (pyNext (.ref I) >>= _) _ _ s
    refine wpAny_bind (W.item i s _ _ (by omega) st fun v s1 pv st1 mv => ?_)
    obtain ⟨p, hp, rfl⟩ := val i v pv
    have kp1 := stays mv kp
    have R1 := RS.kept (fun o e => mv.heap S o nSw e) fun p hp => mt_kept (hk p (List.mem_of_mem_take (g.of p hp))) kp1
    have mp := mt_kept (hk p (List.mem_of_getElem? hp)) kp1
    have hle := g.le
    show wpAny _ A.in1 (holding [Value.ref p.1] (setAdd S (.ref p.1)) >>= _) _ _ s1
    refine wpAny_bind (wpAny_holding ?_)
    unfold setAdd
    refine wpAny_holding (wpAny_bind (wpAny_pyHash_tuple hu mp ?_))
    refine SetM.add (s := { s1 with toks := s1.toks + (p.2.length + 1) }) R1 mp hu (by omega) fun b h2 L2 es2 ep2 t2 sb R2 q1 q2 => ?_
    have kp2 : ∀ b o, h0.get? b = some o → h2.get? b = some o := fun b o e => by
      rw [sb.2 b fun z => by rw [z0 b (.inl z)] at e; cases e]
      exact kp1 b o e
    have off : ∀ b, b ≠ S → h2.get? b = s1.heap.get? b := fun b hb => sb.2 b hb
    refine wpAny_pure ⟨plainId_quiet F.plain_set_update_loop _, ih (i + 1) _ (by omega) (W.frame _ s1 _ _ st1 (Nat.le_add_right _ _) fun b hb o e => ?_) kp2 ⟨L2, es2, ep2, t2, R2, g.next hp q1 q2⟩ fun s3 L3 es3 ep3 t3 mv3 R3 g3 kp3 => ?_⟩
    · rw [off b fun z => hSf (by rw [← z]; exact hb)]
      exact e
    · refine fin s3 L3 es3 ep3 t3 (Moved.trans W.gtrans ((mv.mono more).then_heap (Nat.le_add_right _ _) fun b o hb e => ?_) mv3) R3 g3 kp3
      rw [off b fun z => hb (by rw [z]; exact List.mem_cons_self)]
      exact e
end
end SL
set_option maxHeartbeats 4000000
namespace SL
open PySem PySem.Spec PyProof.Rows L2
section
variable {P : Program} {w : World} {A : Around} {E : Value → Shared → Prop} {s : Shared}
theorem setCallM {l : Addr} {its : Array Value} (ks : List (Addr × List Key)) {Q : Value → Shared → Prop} (hh : A.handled = none) (hl : s.heap.IsList l its) (hit : its.toList = ks.map fun p => Value.ref p.1)
    (hk : ∀ p ∈ ks, MT P w s.heap p.2 p.1) (few : ks.length < 64) (hu : A.units + 3 < cLine)
    (q : ∀ (h' : Heap) (tk : Nat) L es ep t, SetM P w h' s.heap.objs.size L es ep t → Took ks ks.length L → (∀ b o, s.heap.get? b = some o → h'.get? b = some o) → Q (.ref s.heap.objs.size) { s with heap := h', toks := tk }) :
    wpAny (model P w) A (call (.type "set") [.ref l]) Q E s := by
  have hsz : its.size = ks.length := by rw [← Array.length_toList, hit, List.length_map]
  obtain ⟨cc, ct, hmro⟩ := F.called_set.mro
  have k1 := F.called_set.made
  have k2 := F.called_set.sub
  have k3 := F.called_set.notType
  have k4 := F.called_set.canCreate
  have k5 := F.typeCall_set_1 (.ref l)
  refine wpAny_call (codeAny_of_tree (show wpAny _ _ (callAny (.type "set") _) _ _ _ from wpAny_pure ⟨Code.quiet_builtin _ (by decide +kernel), codeAny_builtin F.entry_type_call ?_⟩))
  rw [Around.under_plain (weight_type_call_type "set" [.ref l] []) rfl]
  repeat (any_goals (first | assumption | wp_step))
  refine codeAny_mono (code_set_led1 (.ref l) (E := E) (Q₁ := fun v u => v = .ref s.heap.objs.size ∧ u = { s with heap := s.heap.push (setNil w) }) ⟨rfl, rfl⟩) fun r u hr => ?_
  match r, hr with
  | .error e, hr => exact hr
  | .ok .next, hr => exact hr.elim
  | .ok .brk, hr => exact hr.elim
  | .ok .cont, hr => exact hr.elim
  | .ok (.ret v), hr =>
    obtain ⟨rfl, rfl⟩ := hr
    have g1 : (s.heap.push (setNil w)).get? s.heap.objs.size = some (setNil w) := Heap.get?_push_size _ rfl
    have g2 : ∀ b o, s.heap.get? b = some o → (s.heap.push (setNil w)).get? b = some o := fun b o e => Heap.get?_push_of_some _ e
    have g3 : (s.heap.push (setNil w)).objs.size = s.heap.objs.size + 1 := Heap.size_push ..
    have ty : Shared.TypeIs { s with heap := s.heap.push (setNil w) } (.ref s.heap.objs.size) "set" := ⟨_, g1, rfl⟩
    have k6 := F.called_set.init.lookup
    have k7 := F.called_set.init.bind (.ref s.heap.objs.size)
    generalize s.heap.push (setNil w) = h1 at g1 g2 g3 ty
    repeat (any_goals (first | assumption | wp_step))
    refine codeAny_mono (codeAny_call_builtin (R := wants (fun v u => v = .none ∧ ∃ h' tk L es ep t, u = { s with heap := h', toks := tk } ∧ SetM P w h' s.heap.objs.size L es ep t ∧ Took ks ks.length L ∧ ∀ b o, s.heap.get? b = some o → h'.get? b = some o) E)
      F.called_set.init.plain F.entry_set_init (check_set_init_1 ty ?_)) fun r2 u2 hr2 => ?_
    · have free : ∀ b, s.heap.objs.size ≤ b → s.heap.get? b = none := fun b hb => by
        cases e : s.heap.get? b with
        | none => rfl
        | some o =>
          exact absurd (Nat.lt_of_lt_of_le (Heap.lt_size e) hb) (Nat.lt_irrefl _)
      obtain ⟨⟨lc, ld, lt, ls⟩, ho, hc, nl, hd⟩ := hl
      have hlS : l < s.heap.objs.size := Heap.lt_size ho
      cases hc
      cases hd
      have hoL := g2 _ _ ho
      have isL : h1.IsList l its := ⟨_, hoL, rfl, nl, rfl⟩
      have y1 := F.sub_list_set
      have y2 := F.sub_list_frozenset
      have y3 : (Value.type "list" == Value.type "dict") = false := rfl
      unfold Builtin.«set.__init__» Builtin.Frozenset.updateFrom noKeywords
      generalize ePI : pyIter = PI
      wp_walk
      subst ePI
      refine wpAny_pyIter_list isL (wpAny_bind (wpAny_runValue ?_))
      have nI : l ≠ h1.objs.size := by rw [g3]; exact Nat.ne_of_lt (Nat.lt_succ_of_lt hlS)
      have nS : s.heap.objs.size ∉ [h1.objs.size, l] := by
        intro z
        rw [g3] at z
        rcases List.mem_cons.mp z with z | z
        · exact absurd z (Nat.ne_of_lt (Nat.lt_succ_self _))
        · exact absurd (List.mem_singleton.mp z) (Nat.ne_of_gt hlS)
      have val : ∀ (i : Nat) (v : Value), its[i]? = some v → ∃ p, ks[i]? = some p ∧ v = .ref p.1 := fun i v e => by
        rw [← Array.getElem?_toList, hit, List.getElem?_map] at e
        obtain ⟨p, e1, e2⟩ := Option.map_eq_some_iff.mp e
        exact ⟨p, e1, e2.symm⟩
      refine updM ((Walks.list (by simp [hh]) _ l nI its).toS) s.heap.objs.size nS ks hsz few val s.heap hk (fun b hb => free b ?_) hu its.size 0 _ (Nat.zero_add _) ⟨⟨_, Heap.get?_push_size _ rfl, rfl, rfl⟩, isL.push _⟩
        (fun b o e => Heap.get?_push_of_some _ (g2 b o e)) ⟨[], #[], 0, _, SetM.nil (Heap.get?_push_of_some _ g1), Took.start ks⟩ fun u L es ep t mv RS g kp => ?_
      · rcases hb with e | e
        · rw [e]
          exact Nat.le_refl _
        · rw [List.mem_singleton.mp e, g3]
          exact Nat.le_succ _
      · obtain ⟨h', g2', d', tk', os'⟩ := u
        cases (show g2' = s.gens from mv.gens)
        cases (show d' = s.drawn from mv.drawn)
        cases (show os' = s.os from mv.os)
        rw [hsz] at g
        exact wpAny_pure (wpAny_pure ⟨rfl, h', tk', L, es, ep, t, rfl, RS, g, kp⟩)
    · match r2, hr2 with
      | .error e, hr2 => exact hr2
      | .ok .next, hr2 => exact hr2.elim
      | .ok .brk, hr2 => exact hr2.elim
      | .ok .cont, hr2 => exact hr2.elim
      | .ok (.ret v), hr2 =>
        obtain ⟨rfl, h', tk, L, es, ep, t, rfl, b1, b2, b3⟩ := hr2
        repeat (any_goals (first | assumption | wp_step))
        exact q _ _ _ _ _ _ b1 b2 b3
end
end SL
set_option maxHeartbeats 4000000
namespace SL
open PySem PySem.Spec PyProof.Rows L2
def kLt : Key → Key → Bool
  | .inl i, .inl j => decide (i < j)
  | .inr x, .inr y => decide (x.cps.toList < y.cps.toList)
  | .inl _, .inr _ => true
  | .inr _, .inl _ => false
def ltK : List Key → List Key → Bool
  | x :: xs, y :: ys => if x = y then ltK xs ys else kLt x y
  | [], _ :: _ => true
  | _, [] => false
def isInl : Key → Bool
  | .inl _ => true
  | .inr _ => false
theorem kLt_irr (x : Key) : kLt x x = false := by
  cases x with
  | inl i => exact decide_eq_false (Int.lt_irrefl i)
  | inr x => exact decide_eq_false (List.lt_irrefl _)
theorem kLt_asym {x y : Key} (h : kLt x y = true) : kLt y x = false := by
  cases x <;> cases y
  · have := of_decide_eq_true h
    exact decide_eq_false (by omega)
  · rfl
  · exact Bool.noConfusion h
  · have := of_decide_eq_true h
    exact decide_eq_false (List.lt_asymm this)
theorem kLt_tri {x y : Key} (h : x ≠ y) : kLt x y = true ∨ kLt y x = true := by
  cases x with
  | inl i => cases y with
    | inl j =>
      have : i ≠ j := fun e => h (by rw [e])
      rcases Int.lt_or_gt_of_ne this with c | c
      · exact .inl (decide_eq_true c)
      · exact .inr (decide_eq_true c)
    | inr y => exact .inl rfl
  | inr x => cases y with
    | inl j => exact .inr rfl
    | inr y =>
      by_cases c : x.cps.toList < y.cps.toList
      · exact .inl (decide_eq_true c)
      · by_cases d : y.cps.toList < x.cps.toList
        · exact .inr (decide_eq_true d)
        · refine absurd (congrArg Sum.inr (TL.ext_tl (x := x) (y := y) ?_)) h
          exact List.le_antisymm (List.not_lt.mp d) (List.not_lt.mp c)
theorem kLt_tr {x y z : Key} (h1 : kLt x y = true) (h2 : kLt y z = true) : kLt x z = true := by
  cases x <;> cases y <;> cases z <;> first | rfl | exact Bool.noConfusion h1 | exact Bool.noConfusion h2 | skip
  · have := of_decide_eq_true h1
    have := of_decide_eq_true h2
    exact decide_eq_true (by omega)
  · exact decide_eq_true (List.lt_trans (of_decide_eq_true h1) (of_decide_eq_true h2))
theorem ltK_irr : ∀ k : List Key, ltK k k = false
  | [] => rfl
  | x :: xs => by
    unfold ltK
    rw [if_pos rfl]
    exact ltK_irr xs
theorem ltK_asym : ∀ {a b : List Key}, ltK a b = true → ltK b a = false
  | [], [], h => by cases h
  | [], _ :: _, _ => rfl
  | _ :: _, [], h => by cases h
  | x :: xs, y :: ys, h => by
    unfold ltK at h ⊢
    by_cases e : x = y
    · rw [if_pos e] at h
      rw [if_pos e.symm]
      exact ltK_asym h
    · rw [if_neg e] at h
      rw [if_neg (Ne.symm e)]
      exact kLt_asym h
theorem ltK_tri : ∀ {a b : List Key}, a ≠ b → ltK a b = true ∨ ltK b a = true
  | [], [], h => absurd rfl h
  | [], _ :: _, _ => .inl rfl
  | _ :: _, [], _ => .inr rfl
  | x :: xs, y :: ys, h => by
    unfold ltK
    by_cases e : x = y
    · rw [if_pos e, if_pos e.symm]
      exact ltK_tri fun z => h (by rw [e, z])
    · rw [if_neg e, if_neg (Ne.symm e)]
      exact kLt_tri e
theorem ltK_tr : ∀ {a b c : List Key}, ltK a b = true → ltK b c = true → ltK a c = true
  | [], [], c, h, _ => by cases h
  | [], _ :: _, [], _, h => by cases h
  | [], _ :: _, _ :: _, _, _ => rfl
  | _ :: _, [], c, h, _ => by cases h
  | _ :: _, _ :: _, [], _, h => by cases h
  | x :: xs, y :: ys, z :: zs, h1, h2 => by
    unfold ltK at h1 h2 ⊢
    by_cases e1 : x = y
    · rw [if_pos e1] at h1
      by_cases e2 : y = z
      · rw [if_pos e2] at h2
        rw [if_pos (e1.trans e2)]
        exact ltK_tr h1 h2
      · rw [if_neg e2] at h2
        rw [if_neg (by rw [e1]; exact e2), e1]
        exact h2
    · rw [if_neg e1] at h1
      by_cases e2 : y = z
      · rw [if_neg (by rw [← e2]; exact e1), ← e2]
        exact h1
      · rw [if_neg e2] at h2
        have h3 := kLt_tr h1 h2
        have e3 : x ≠ z := fun e => by
          rw [e, kLt_irr] at h3
          cases h3
        rw [if_neg e3]
        exact h3
theorem swoK (k : Value → List Key) : SrtO.Swo fun v u => ltK (k v) (k u) := by
  refine ⟨fun x y h => ltK_asym h, fun x y z h1 h2 => ?_⟩
  cases h : ltK (k z) (k x) with
  | false => rfl
  | true =>
    have h1 : ltK (k y) (k x) = false := h1
    have h2 : ltK (k z) (k y) = false := h2
    by_cases e : k y = k x
    · rw [e] at h2
      rw [h] at h2
      cases h2
    · rcases ltK_tri e with c | c
      · rw [c] at h1
        cases h1
      · rw [ltK_tr h c] at h2
        cases h2
section
variable {P : Program} {w : World} {A : Around} {E : Value → Shared → Prop} {s : Shared}
theorem lexM {Q : Bool → Shared → Prop} : ∀ (k k' : List Key) (xs ys : List Value) (i : Nat), ItemsAre (mixKind P w) k xs → ItemsAre (mixKind P w) k' ys → k.map isInl = k'.map isInl → (i = 0 → k.head?.map isInl = some true) →
    Q (ltK k k') s → PySem.W.KatLex P w A true false Q (xs.zip ys) i s
  | [], [], _, _, i, .nil, .nil, _, _, q => PySem.W.kat_nil q
  | [], _ :: _, _, _, i, _, _, e, _, _ => by cases e
  | _ :: _, [], _, _, i, _, _, e, _, _ => by cases e
  | x :: k, y :: k', _, _, i, .cons h1 r1, .cons h2 r2, e, hi, q => by
    rename_i u xs v ys
    have e1 : isInl x = isInl y := (List.cons.inj e).1
    have e2 : k.map isInl = k'.map isInl := (List.cons.inj e).2
    refine PySem.W.kat_cons ((mixKind P w).eqBool h1 h2 ?_)
    by_cases c : x = y
    · rw [decide_eq_true c]
      refine PySem.W.kat_yes (lexM k k' xs ys (i + 1) r1 r2 e2 (fun z => by cases z) ?_)
      have : ltK (x :: k) (y :: k') = ltK k k' := if_pos c
      rw [← this]
      exact q
    · rw [decide_eq_false c]
      have eq : ltK (x :: k) (y :: k') = kLt x y := if_neg c
      rw [eq] at q
      refine PySem.W.kat_no ?_
      rcases keyIs_shape h1 with ⟨a, t, rfl, rfl⟩ | ⟨a, t, rfl, rfl⟩
      · rcases keyIs_shape h2 with ⟨b, t', rfl, rfl⟩ | ⟨b, t', rfl, rfl⟩
        · exact TS.oneLt_ints _ q
        · cases e1
      · rcases keyIs_shape h2 with ⟨b, t', rfl, rfl⟩ | ⟨b, t', rfl, rfl⟩
        · cases e1
        · have hi0 : i ≠ 0 := fun z => by
            have := hi z
            cases this
          rw [show (true && i == 0) = false by simp [hi0]]
          exact PySem.W.kat_one _ _ (lt_str q)
theorem mt_key {h : Heap} {vs : List Value} {key : Value → List Key} (m : ∀ v ∈ vs, ∃ b, v = .ref b ∧ MT P w h (key v) b) : ∃ fs : List Value, (∀ v ∈ vs, (key v).head?.map isInl = some true) → PySem.W.KatTups h vs fs ∧ fs.length = vs.length ∧ ∀ f ∈ fs, ∃ i t, f = Value.int i t := by
  by_cases hh : ∀ v ∈ vs, (key v).head?.map isInl = some true
  case neg => exact ⟨[], fun z => absurd z hh⟩
  case pos =>
  suffices h : ∃ fs : List Value, PySem.W.KatTups h vs fs ∧ fs.length = vs.length ∧ ∀ f ∈ fs, ∃ i t, f = Value.int i t from h.imp fun _ z _ => z
  induction vs with
  | nil => exact ⟨[], PySem.W.KatTups.nil, rfl, fun f hf => absurd hf (by simp)⟩
  | cons v vs ih =>
    obtain ⟨fs, i1, i2, i3⟩ := ih (fun u hu => m u (by simp [hu])) (fun u hu => hh u (by simp [hu]))
    obtain ⟨b, e, o, its, n, ho, hc, hd, hi⟩ := m v (by simp)
    subst e
    have h0 := hh (.ref b) (by simp)
    cases hk : key (.ref b) with
    | nil =>
      rw [hk] at h0
      cases h0
    | cons x r =>
      rw [hk] at h0 hi
      have hx : isInl x = true := Option.some.inj h0
      obtain ⟨f, rest, ef, hf⟩ : ∃ f rest, its.toList = f :: rest ∧ keyIs x f = true := by
        generalize its.toList = l at hi
        cases hi with
        | cons h1 _ => exact ⟨_, _, rfl, h1⟩
      have h00 : its[0]? = some f := by rw [← Array.getElem?_toList, ef]; rfl
      refine ⟨f :: fs, PySem.W.KatTups.cons ho hc hd h00 i1, by rw [List.length_cons, List.length_cons, i2], fun g hg => ?_⟩
      rcases List.mem_cons.mp hg with e | hg
      · rw [e]
        rcases keyIs_shape hf with ⟨a, t, rfl, rfl⟩ | ⟨a, t, rfl, rfl⟩
        · exact ⟨a, t, rfl⟩
        · cases hx
      · exact i3 g hg
theorem sortM {a : Addr} {vs : List Value} {key : Value → List Key} {sg : List Bool} (h0 : 0 < vs.length) (hs : sg.head? = some true) (m : ∀ v ∈ vs, ∃ b, v = .ref b ∧ MT P w s.heap (key v) b ∧ (key v).map isInl = sg) (ha : ∀ o, s.heap.get? a = some o → o.cls ≠ .type "tuple") :
    SrtO.SortableO P w A s a vs fun v u => ltK (key v) (key u) := by
  intro h' keep
  have m' : ∀ v ∈ vs, ∃ b, v = .ref b ∧ MT P w h' (key v) b := fun v hv => by
    obtain ⟨b, e, ⟨o, its, n, ho, hc, r⟩, _⟩ := m v hv
    exact ⟨b, e, o, its, n, keep b o (fun z => ha o (by rw [← z]; exact ho) hc) ho, hc, r⟩
  have first : ∀ v ∈ vs, (key v).head?.map isInl = some true := fun v hv => by
    obtain ⟨b, e, _, hg⟩ := m v hv
    rw [← hs, ← hg, List.head?_map]
  obtain ⟨fs, hfs⟩ := mt_key m'
  obtain ⟨f1, f2, f3⟩ := hfs first
  refine ⟨tuples' true, fun Q E q => ?_, fun p r hp hr => ?_⟩
  · refine PySem.W.kat_kind (T := .type "int") f1 (by omega) (fun f hf => ?_) (by rfl) ?_
    · obtain ⟨i, t, rfl⟩ := f3 f hf
      exact PySem.W.Looks.now
    · rw [show (Value.type "int" != Value.type "tuple") = true by decide]
      exact q
  · obtain ⟨b, e, hb⟩ := m' p.1 hp
    obtain ⟨b', e', hb'⟩ := m' r.1 hr
    obtain ⟨_, _, _, g1⟩ := m p.1 hp
    obtain ⟨_, _, _, g2⟩ := m r.1 hr
    have hf := first p.1 hp
    show wpAny (model P w) A (keyLt' (tuples' true) p.1 r.1) (fun c s' => s' = _ ∧ c = ltK (key p.1) (key r.1)) (fun _ _ => False) _
    generalize key p.1 = k at hb g1 hf ⊢
    generalize key r.1 = k' at hb' g2 ⊢
    rw [e, e']
    obtain ⟨o, its, n, ho, hc, hd, hi⟩ := hb
    obtain ⟨o', its', n', ho', hc', hd', hi'⟩ := hb'
    refine PySem.W.kat_lt ho hd ho' hd' ?_
    have hl : its.size = its'.size := by
      have l1 : k.length = its.toList.length := by
        clear hd hf g1
        generalize its.toList = l at hi
        induction hi with
        | nil => rfl
        | cons _ _ ih => rw [List.length_cons, List.length_cons, ih]
      have l2 : k'.length = its'.toList.length := by
        clear hd' g2
        generalize its'.toList = l at hi'
        induction hi' with
        | nil => rfl
        | cons _ _ ih => rw [List.length_cons, List.length_cons, ih]
      have l3 := congrArg List.length (g1.trans g2.symm)
      rw [List.length_map, List.length_map] at l3
      rw [← Array.length_toList, ← Array.length_toList, ← l1, ← l2, l3]
    rw [hl, decide_eq_false (Nat.lt_irrefl _)]
    exact lexM k k' _ _ 0 hi hi' (g1.trans g2.symm) (fun _ => hf) ⟨rfl, rfl⟩
end
end SL
set_option maxHeartbeats 4000000
namespace SL
open PySem PySem.Spec PyProof.Rows L2
section
variable {P : Program} {w : World} {A : Around} {E : Value → Shared → Prop} {s : Shared} {a : Addr} {L : List (Addr × List Key)} {es : Array (Int × Value)} {ep : Nat} {t : SetTable}
def adr : Value → Addr
  | .ref b => b
  | _ => 0
open Classical in
noncomputable def keyIn (L : List (Addr × List Key)) (v : Value) : List Key := if h : ∃ p ∈ L, v = .ref p.1 then (choose h).2 else []
theorem keyIn_of {h : Heap} (mt : ∀ p ∈ L, MT P w h p.2 p.1) {p : Addr × List Key} (hp : p ∈ L) : keyIn L (.ref p.1) = p.2 := by
  have ex : ∃ q ∈ L, Value.ref p.1 = .ref q.1 := ⟨p, hp, rfl⟩
  unfold keyIn
  rw [dif_pos ex]
  obtain ⟨h1, h2⟩ := Classical.choose_spec ex
  have e : p.1 = (Classical.choose ex).1 := Value.ref.inj h2
  have m1 := mt _ h1
  rw [← e] at m1
  exact m1.inj (mt p hp)
theorem sortedM (R : SetM P w s.heap a L es ep t) (hh : A.handled = none) {sg : List Bool} (hs : sg.head? = some true) (hg : ∀ p ∈ L, p.2.map isInl = sg) {Q : Value → Shared → Prop}
    (q : ∀ s' p (out : Array Value) (c : Nat) (L' : List (Addr × List Key)), (∀ b o, s.heap.get? b = some o → s'.heap.get? b = some o) → s'.gens = s.gens → s'.os = s.os → s.heap.objs.size ≤ p →
      s'.heap.get? p = some (seqObj "list" out c) → out.toList = L'.map (fun r => Value.ref r.1) → L'.Perm L → L'.Pairwise (fun x y => ltK y.2 x.2 = false) → Q (.ref p) s') :
    wpAny (model P w) A (call (.builtin "sorted") [.ref a]) Q E s := by
  obtain ⟨o, ho, hex, hd⟩ := R.ob
  have fw := R.fw
  have hlen := R.len
  have kf : ∀ p ∈ L, keyIn L (.ref p.1) = p.2 := fun p hp => keyIn_of R.mt hp
  refine Calls.call_function_entry kind_sorted plain_sorted entry_sorted (args_sorted1 _) ?_
  unfold Builtin.«sorted»
  refine wpAny_bind (m := checkCount "sorted" 1 1 _) (wpAny_pure (wpAny_bind (collect_set (A := A.in1) hh ⟨o, ho, hex.1, hd⟩ R.fit (by unfold scanBound; omega) R.tb.ris R.ld fun s1 vs k1 hz g1 o1 pm => ?_)))
  have ev : es.toList.map (·.2) = L.map fun r => Value.ref r.1 := by
    rw [R.rw', List.map_map]
    rfl
  rw [ev] at pm
  have hvl : vs.length = L.length := by rw [pm.length_eq, List.length_map]
  have mem : ∀ v ∈ vs, ∃ p ∈ L, v = .ref p.1 := fun v hv => by
    obtain ⟨p, hp, e⟩ := List.mem_map.mp (pm.mem_iff.mp hv)
    exact ⟨p, hp, e.symm⟩
  refine wpAny_bind (wpAny_newList ?_ (by rw [sizeLine_eq]; omega))
  have hoL : (s1.heap.push (seqObj "list" vs.toArray 0)).get? s1.heap.objs.size = some (seqObj "list" vs.toArray 0) := Heap.get?_push_size _ rfl
  have k2 : ∀ b u, s.heap.get? b = some u → (s1.heap.push (seqObj "list" vs.toArray 0)).get? b = some u := fun b u e => Heap.get?_push_of_some _ (k1 b u e)
  refine wpAny_bind (wpAny_holding (wpAny_call_entry slot_list_sort ⟨_, hoL, rfl⟩ entry_list_sort (SrtO.list_sort_ord (s := { s1 with heap := s1.heap.push (seqObj "list" vs.toArray 0) }) (swoK (keyIn L)) hoL (by rw [sizeLine_eq]; omega) (fun h2 => ?_) fun out hso hst => ⟨_, rfl, ?_⟩) (args_list_sort _)))
  · refine sortM (sg := sg) (by omega) hs (fun v hv => ?_) (fun u e => ?_)
    · obtain ⟨p, hp, rfl⟩ := mem v hv
      rw [kf p hp]
      exact ⟨p.1, rfl, mt_kept (R.mt p hp) k2, hg p hp⟩
    · have e : (s1.heap.push (seqObj "list" vs.toArray 0)).get? s1.heap.objs.size = some u := e
      rw [hoL] at e
      cases e
      show Value.type "list" ≠ Value.type "tuple"
      decide
  · obtain ⟨c, hc⟩ := sortedHeap_at (vs := vs) (out := out.toArray) hoL
    have mo : ∀ v ∈ out, ∃ p ∈ L, v = .ref p.1 := fun v hv => mem v (hst.perm.mem_iff.mp hv)
    have back : (out.map fun v => (adr v, keyIn L v)).map (fun r => Value.ref r.1) = out := by
      rw [List.map_map]
      refine (List.map_congr_left fun v hv => ?_).trans (List.map_id _)
      obtain ⟨p, _, rfl⟩ := mo v hv
      rfl
    have pL : (out.map fun v => (adr v, keyIn L v)).Perm L := by
      refine ((hst.perm.trans pm).map fun v => (adr v, keyIn L v)).trans (List.Perm.of_eq ?_)
      rw [List.map_map]
      refine (List.map_congr_left fun p hp => ?_).trans (List.map_id _)
      show (p.1, keyIn L (.ref p.1)) = p
      rw [kf p hp]
    refine wpAny_pure ⟨_, rfl, q _ s1.heap.objs.size out.toArray c _ (fun b u e => ?_) g1 o1 hz hc (by rw [back]) pL (List.pairwise_map.mpr hso)⟩
    have e1 := k1 b u e
    have lt := Heap.lt_size e1
    show (sortedHeap (s1.heap.push (seqObj "list" vs.toArray 0)) s1.heap.objs.size vs out.toArray).get? b = some u
    rw [sortedHeap_old (Nat.ne_of_lt lt) (by rw [size_push']; exact Nat.lt_succ_of_lt lt)]
    exact Heap.get?_push_of_some _ e1
end
def tSortSet (K : PySem.W.Frag) (ta : TE) : TE := fun σ H Q => ta σ H fun x H1 => ∃ (l : Addr) (ks : List (Addr × List Key)) (sg : List Bool), x = V.ref l ∧ SqL K H1 l (ks.map fun p => V.ref p.1) ∧ (∀ p ∈ ks, SqT K H1 p.1 (p.2.map kV)) ∧ ks.length < 64 ∧
  sg.head? = some true ∧ (∀ p ∈ ks, p.2.map isInl = sg) ∧
  ∀ (L : List (Addr × List Key)) (p : Addr), (∀ r ∈ L, r ∈ ks) → (∀ r ∈ ks, r.2 ∈ L.map (·.2)) → L.Pairwise (fun x y => ltK x.2 y.2 = true) → H1 p = none → Q (.ref p) (upd H1 p (.lst (L.map fun r => V.ref r.1)))
theorem items_kV {P : Program} {w : World} : ∀ {k : List Key} {us : List Value}, Vals (k.map kV) us → ItemsAre (mixKind P w) k us
  | [], _, .nil => .nil
  | .inl i :: k, _, .cons r t => by
    obtain ⟨tk, rfl⟩ := r
    exact .cons (mixKind_int P w i tk) (items_kV t)
  | .inr x :: k, _, .cons r t => by
    obtain ⟨tk, rfl⟩ := r
    exact .cons (mixKind_str P w x tk) (items_kV t)
theorem refs_eq : ∀ {ks : List (Addr × List Key)} {us : List Value}, Vals (ks.map fun p => V.ref p.1) us → us = ks.map fun p => Value.ref p.1
  | [], _, .nil => rfl
  | p :: ks, _, .cons r t => by
    cases r
    rw [refs_eq t]
    rfl
theorem refs_vals : ∀ ks : List (Addr × List Key), Vals (ks.map fun p => V.ref p.1) (ks.map fun p => Value.ref p.1)
  | [] => .nil
  | p :: ks => .cons rfl (refs_vals ks)
section
variable {X : Cx}
theorem pe_sortSet {a : Expr} {ta : TE} {p p2 q pos : Pos} (hc : X.calm = true) (hu : X.A.units + 64 < cLine) (hg : Gl X "sorted") (hm : X.mg "sorted" = none) (hg2 : Gl X "set") (hm2 : X.mg "set" = none) (ha : PE X a ta)
    (na : starEach [a] X.env = (false, eval a X.env) :: starEach [] X.env := by rfl) : PE X (.Call (.Name "sorted" p) [.Call (.Name "set" p2) [a] [] q] [] pos) (tSortSet X.K ta) := by
  constructor
  intro pins s σ H Q I h
  refine Call_ (ld_blt I hg hm (show bootBuiltins "sorted" = some (Value.builtin "sorted") by decide +kernel) (PyProof.Rows.callWith_builtin1 (PyProof.Rows.args_cons ?_ rfl) rfl rfl))
  refine Call_ (ld_blt I hg2 hm2 PyProof.Rows.boot_set (PyProof.Rows.callWith_type1 (PyProof.Rows.args_cons (thn (ha.run pins s σ H _ I h) fun v s1 z => PyProof.Rows.args_nil ?_) na) na rfl))
  obtain ⟨x, H1, I1, r1, l, ks, sg, rfl, hl, hk, few, hs, hsg, fin⟩ := z
  cases r1
  obtain ⟨its, rv, pl, hz⟩ := I1.list hl
  have mt : ∀ p ∈ ks, MT X.prog X.w s1.heap p.2 p.1 := fun p hp => by
    obtain ⟨us, r, ⟨o, ho, hc, n, hd⟩, _⟩ := I1.tuple (hk p hp)
    exact ⟨o, us.toArray, n, ho, hc, hd, by simpa using items_kV r⟩
  refine setCallM ks (I1.ok.hd hc) pl.isList (by simpa using refs_eq rv) mt few (by omega) fun h' tk L es ep t R g k => PyProof.Rows.args_nil ?_
  have I2 : Inv X pins σ H1 { s1 with heap := h', toks := tk } := I1.kept fun b o e => k b o e
  have inK : ∀ r ∈ L, r ∈ ks := fun r hr => List.mem_of_mem_take (g.of r hr)
  refine sortedM (s := { s1 with heap := h', toks := tk }) R (I2.ok.hd hc) hs (fun r hr => hsg r (inK r hr)) fun s' p out c L' k2 g2 o2 hp hgp hout pm pw => ?_
  have hn : H1 p = none := I2.hok.fresh hp
  have hlen : (L'.map fun r => V.ref r.1).length ≤ sizeLine := by
    rw [List.length_map, pm.length_eq, sizeLine_eq]
    have := R.fw
    omega
  have hv : Vals (L'.map fun r => V.ref r.1) out.toList := by rw [hout]; exact refs_vals L'
  have J : Inv X pins σ (upd H1 p (.lst (L'.map fun r => V.ref r.1))) { ({ s1 with heap := h', toks := tk } : Shared) with heap := s'.heap, gens := s'.gens, drawn := s'.drawn, toks := s'.toks } :=
    I2.call (s := { s1 with heap := h', toks := tk }) (ch := []) (Un.laid k2 hp hn) (I2.hok.laid k2 hp ⟨hlen, out.toList, c, hv, hgp⟩) (by rw [g2]; exact I2.bare) (fun _ z => nomatch z)
  have es' : s' = { s1 with heap := s'.heap, gens := s'.gens, drawn := s'.drawn, toks := s'.toks } := by
    cases s'
    cases o2
    rfl
  rw [es']
  have nd : (L'.map (·.2)).Nodup := (pm.map (·.2)).nodup_iff.mpr R.nd
  refine ⟨.ref p, _, J, rfl, fin L' p (fun r hr => inK r (pm.mem_iff.mp hr)) (fun r hr => ?_) ?_ hn⟩
  · have := g.al r (by rw [List.take_length]; exact hr)
    exact (pm.map (·.2)).mem_iff.mpr this
  · have nd2 : L'.Pairwise (fun x y => x.2 ≠ y.2) := List.pairwise_map.mp nd
    refine (pw.and nd2).imp fun {x y} h => ?_
    rcases ltK_tri h.2 with c | c
    · exact c
    · rw [h.1] at c
      cases c
end
end SL
set_option maxHeartbeats 4000000
namespace SL
open PySem PySem.Spec PyProof.Rows L2
abbrev LabsAt (H : Hp) (vs : List V) (ls : List Lab) : Prop := Paired (LabAt H) vs ls
theorem labs_get {H : Hp} : ∀ {vs : List V} {ls : List Lab} {i : Nat} {v : V}, LabsAt H vs ls → vs[i]? = some v → ∃ a, ls[i]? = some a ∧ LabAt H v a
  | _, _, _, _, .nil, e => by simp at e
  | _, _, 0, v, .cons h _, e => by
    simp only [List.getElem?_cons_zero, Option.some.injEq] at e
    subst e
    exact ⟨_, rfl, h⟩
  | _, _, i + 1, v, .cons _ r, e => by
    obtain ⟨a, e1, e2⟩ := labs_get r (i := i) (by simpa using e)
    exact ⟨a, by simpa using e1, e2⟩
theorem labs_len {H : Hp} {vs : List V} {ls : List Lab} (h : LabsAt H vs ls) : vs.length = ls.length := Paired.length h
theorem perm_back {α β γ : Type} (f : α → γ) (g : β → γ) : ∀ (L : List α) (l : List β), (L.map f).Perm (l.map g) → ∃ l' : List β, l'.Perm l ∧ l'.map g = L.map f
  | [], l, h => by
    have : l = [] := by
      have := h.length_eq
      rw [List.length_map, List.length_map] at this
      exact List.length_eq_zero_iff.mp this.symm
    subst this
    exact ⟨[], .refl _, rfl⟩
  | x :: L, l, h => by
    have hm : f x ∈ l.map g := h.mem_iff.mp (by simp)
    obtain ⟨y, hy, e⟩ := List.mem_map.mp hm
    obtain ⟨a, b, rfl⟩ := List.append_of_mem hy
    have h2 : (L.map f).Perm ((a ++ b).map g) := by
      have h3 : (f x :: L.map f).Perm (g y :: (a ++ b).map g) := by
        refine (show (f x :: L.map f).Perm ((a ++ y :: b).map g) from h).trans ?_
        rw [List.map_append, List.map_cons, List.map_append]
        exact List.perm_middle
      rw [e] at h3
      exact (List.perm_cons _).mp h3
    obtain ⟨l', p, q⟩ := perm_back f g L (a ++ b) h2
    refine ⟨y :: l', (p.cons y).trans List.perm_middle.symm, ?_⟩
    rw [List.map_cons, List.map_cons, q, e]
theorem labs_map {H : Hp} {f : Lab → V} : ∀ {ls : List Lab}, (∀ a ∈ ls, LabAt H (f a) a) → LabsAt H (ls.map f) ls
  | [], _ => .nil
  | a :: ls, h => .cons (h a (by simp)) (labs_map fun b hb => h b (by simp [hb]))
theorem nd_name {ls : List Lab} (nd : (ls.map (·.name)).Nodup) {i j : Nat} {a b : Lab} (ha : ls[i]? = some a) (hb : ls[j]? = some b) (e : a.name = b.name) : i = j := by
  have h1 : (ls.map (·.name))[i]? = some a.name := by rw [List.getElem?_map, ha]; rfl
  have h2 : (ls.map (·.name))[j]? = some a.name := by rw [List.getElem?_map, hb, e]; rfl
  exact (idx_nd nd h1).symm.trans (idx_nd nd h2)
end SL
namespace SK
open PySem PySem.Spec PyProof.Rows L2 SL
section
variable {w : World} {K : PySem.W.Frag} {mg : Str → Option Value} {base : Heap}
def spInOrd (K : PySem.W.Frag) : Sp := sp2 fun s l H Q _ => ∃ (x : Str) (st : RSt) (t0 : Addr) (vs : List V) (labs : List Lab), StAt K H s x st ∧ l = .ref t0 ∧ H t0 = some (.tup vs) ∧ LabsAt H vs labs ∧ (∀ a ∈ labs, a.kind ∈ names st) ∧ (labs.map (·.name)).Nodup ∧ labs.length ≤ 30 ∧
  ∀ (H' : Hp) (t : Addr) (vs' : List V) (labs' : List Lab), Same H H' → H' t = some (.tup vs') → LabsAt H' vs' labs' → labs'.Perm labs → labs'.Pairwise (fun a b => ltK (okeyOf st a) (okeyOf st b) = true) → Q (.ref t) H'
abbrev n_in_order : List Str := ["style", "labels", "known", "label", "key"]
theorem sc_in_order : FnScope n_in_order ["style", "labels"] (defScope d_in_order) := ⟨rfl, rfl, rfl, by decide +kernel, rfl, by decide +kernel, by decide +kernel⟩
theorem ok_in_order (T : Top w K mg) : Has prg w K mg base CX0 2 (He.ga K "in_order") ["style", "labels"] (spInOrd K) := by
  obtain ⟨fd, F⟩ := T.F_in_order
  obtain ⟨fd_order_key, G_order_key, b_order_key, k_order_key⟩ := ok_order_key (base := base) T
  refine ⟨fd, F.ok (k := 1) sc_in_order (fun _ _ _ _ h => sp2_len h) (fun cdv A outer s H vs Q E hr h => ?_), F.bindsN (fun _ _ _ _ _ _ us hl => match us, hl with | [_, _], _ => rfl), F.kp⟩
  obtain ⟨v0, v1, rfl, h⟩ := h
  refine ⟨_, PSs.nox (pss_cons (ps_set (i := 2) sc_in_order.nd rfl (Or.inr rfl) (pe_dc (own := [("label", 3)]) (g := gName 3) (by rfl) sc_in_order.nd (pi_tup (pv 1)) (blkOk_by (N := n_in_order) (sc := defScope d_in_order) (own := [("label", 3)]) (by decide +kernel)) (fun _ _ _ _ _ => (pg_name (i := 3) sc_in_order.nd rfl (Or.inl rfl) (.inr rfl))) (fun _ _ _ _ _ => pts_nil) (fun _ _ _ _ _ => (pe_ix (ix_tupK (K := K) rfl) (pv 3) pe_int (fun _ _ => rfl))) (fun _ _ _ _ _ => (pv 3))))
    (pss_one (ps_ret (pe_callTy call_tuple_of (by rfl) T.b_tuple boot_tuple (pa_cons (pe_lc (own := [("key", 4)]) (g := gName 4) (by rfl) sc_in_order.nd (pi_list (pe_sortSet (by rfl) hr.units (by rfl) T.b_sorted (by rfl) T.b_set (pe_lc (own := [("label", 3)]) (g := gName 3) (by rfl) sc_in_order.nd (pi_tup (pv 1)) (blkOk_by (N := n_in_order) (sc := defScope d_in_order) (own := [("label", 3)]) (by decide +kernel)) (fun _ _ _ _ _ => (pg_name (i := 3) sc_in_order.nd rfl (Or.inl rfl) (.inr rfl))) (fun _ _ _ _ _ => pts_nil) (fun _ _ _ _ _ => (pe_call G_order_key (hr.mono (by decide)) (by rfl) T.g_order_key k_order_key b_order_key .nil pass0 (pa_cons (pv 0) (pa_cons (pv 3) pa_nil))))))) (blkOk_by (N := n_in_order) (sc := defScope d_in_order) (own := [("key", 4)]) (by decide +kernel)) (fun _ _ _ _ _ => (pg_name (i := 4) sc_in_order.nd rfl (Or.inl rfl) (.inr rfl))) (fun _ _ _ _ _ => pts_nil) (fun _ _ _ _ _ => (pe_dget (hu_of hr) (pv 2) (pe_ix (ix_tupK (K := K) rfl) (pv 4) pe_int (fun _ _ => rfl)) (fun _ _ => rfl)))) pa_nil))))), ?_⟩
  obtain ⟨x, st, t0, vs, labs, S, rfl, h0, hL, hk, nd, hl, q⟩ := h
  have hlen := labs_len hL
  refine ⟨_, rfl, t0, rfl, ⟨_, SqT.of h0⟩, fun D hD => ?_⟩
  refine dc_it (walk_tup (xs := vs)) (fun i H' => Same H H' ∧ ∃ kvs, H' D = some (.dK kvs) ∧ kvs.length ≤ i ∧ ∀ j a v, j < i → labs[j]? = some a → vs[j]? = some v → valV kvs (.inr a.name) = some v)
    ⟨same_new hD, [], upd_same, Nat.le_refl _, fun j _ _ hj => absurd hj (Nat.not_lt_zero _)⟩ (fun i H' _ p => SqT.of (p.1 _ _ h0)) ?_ ?_
  · rintro i y H6 H7 hi ⟨s6, kvs, hk6, hkl, hval⟩ ⟨rfl, hy⟩
    obtain ⟨a, ha, La⟩ := labs_get hL hy
    obtain ⟨ta, rfl, hta⟩ := La.same s6
    refine ⟨rfl, _, rfl, ta, _, _, _, rfl, rfl, SqT.of hta, atI_nat (j := 0) rfl, _, rfl, kvs, .inr a.name, rfl, hk6, ?_, ?_⟩
    · exact Nat.lt_of_le_of_lt hkl (Nat.lt_of_lt_of_le hi (by rw [hlen, sizeLine_eq]; omega))
    · refine ⟨fun b o hb => ?_, _, upd_same, Nat.le_trans (putK_len _ _ _) (by omega), fun j b v hj hb hv => ?_⟩
      · rw [upd_ne (ne_of_none hb hD)]
        exact s6 _ _ hb
      · rw [valV_put]
        by_cases e : j = i
        · subst e
          rw [ha] at hb
          cases hb
          rw [hy] at hv
          cases hv
          rw [if_pos rfl]
        · rw [if_neg (fun z => e (nd_name nd hb ha (Sum.inr.inj z)))]
          exact hval j b v (by omega) hb hv
  rintro H1 ⟨s1, kvs, hk1, hkl, hval⟩
  rw [hlen] at hval
  refine ⟨_, rfl, t0, rfl, ⟨_, SqT.of (s1 _ _ h0)⟩, fun D2 hD2 => ?_⟩
  refine lc_it (walk_tup (xs := vs)) (fun i H' => Same H1 H' ∧ ∃ ks : List (Addr × List Key), H' D2 = some (.lst (ks.map fun p => V.ref p.1)) ∧ ks.map (·.2) = (labs.take i).map (okeyOf st) ∧ ∀ p ∈ ks, H' p.1 = some (.tup (p.2.map kV)))
    ⟨same_new hD2, [], upd_same, rfl, fun p hp => absurd hp (by simp)⟩ (fun i H' _ p => SqT.of (p.1 _ _ (s1 _ _ h0))) ?_ ?_
  · rintro i y H3 H4 hi ⟨s3, ks, hk3, hks, hkt⟩ ⟨rfl, hy⟩
    obtain ⟨a, ha, La⟩ := labs_get hL hy
    have s13 := s1.trans s3
    have kl : ks.length ≤ 30 := by
      have := congrArg List.length hks
      rw [List.length_map, List.length_map, List.length_take] at this
      omega
    refine ⟨rfl, _, rfl, _, rfl, _, _, rfl, x, st, a, SAt.same s13 S, La.same s13, hk a (List.mem_of_getElem? ha), fun H5 t s5 ht0 ht => ⟨_, s5 _ _ hk3, ?_, ?_⟩⟩
    · rw [List.length_map, sizeLine_eq]
      omega
    refine ⟨fun b o hb => ?_, ks ++ [(t, okeyOf st a)], ?_, ?_, fun p hp => ?_⟩
    · rw [upd_ne (ne_of_none hb hD2)]
      exact s5 _ _ (s3 _ _ hb)
    · rw [upd_same, List.map_append]
      rfl
    · rw [List.map_append, hks, List.take_succ, ha, List.map_append]
      rfl
    · rcases List.mem_append.mp hp with hp | hp
      · have e := s5 _ _ (hkt p hp)
        rw [upd_ne (fun z => by rw [z, s5 _ _ hk3] at e; cases e)]
        exact e
      · rw [List.mem_singleton.mp hp]
        show upd H5 D2 _ t = _
        rw [upd_ne (fun z => by rw [z, s5 _ _ hk3] at ht; cases ht)]
        exact ht
  rintro H2 ⟨s2, ks, hk2, hks, hkt⟩
  rw [hlen, List.take_length] at hks
  have kl : ks.length ≤ 30 := by
    have := congrArg List.length hks
    rw [List.length_map, List.length_map] at this
    omega
  have kin : ∀ p ∈ ks, ∃ a ∈ labs, p.2 = okeyOf st a := fun p hp => by
    have : p.2 ∈ labs.map (okeyOf st) := by rw [← hks]; exact List.mem_map.mpr ⟨p, hp, rfl⟩
    obtain ⟨a, ha, e⟩ := List.mem_map.mp this
    exact ⟨a, ha, e.symm⟩
  refine ⟨D2, ks, [true, true, false], rfl, SqL.of hk2, fun p hp => SqT.of (hkt p hp), by omega, rfl, fun p hp => ?_, fun L p hin hall hpw hp => ?_⟩
  · obtain ⟨a, _, e⟩ := kin p hp
    rw [e]
    rfl
  have nd1 : (L.map (·.2)).Nodup := List.pairwise_map.mpr (hpw.imp fun {a b} h e => by
    rw [e, ltK_irr] at h
    cases h)
  have nd2 : (labs.map (okeyOf st)).Nodup := List.pairwise_map.mpr ((List.pairwise_map.mp nd).imp fun {a b} h e => h (by
    have e3 := congrArg (fun l : List Key => l[2]?) e
    exact Sum.inr.inj (Option.some.inj e3)))
  have pm : (L.map (·.2)).Perm (labs.map (okeyOf st)) := (List.perm_ext_iff_of_nodup nd1 nd2).mpr fun k => ⟨fun h => by
      obtain ⟨r, hr, rfl⟩ := List.mem_map.mp h
      obtain ⟨a, ha, e⟩ := kin r (hin r hr)
      exact List.mem_map.mpr ⟨a, ha, e.symm⟩, fun h => by
      rw [← hks] at h
      obtain ⟨r, hr, rfl⟩ := List.mem_map.mp h
      exact hall r hr⟩
  obtain ⟨labs', pl, el⟩ := perm_back (fun r : Addr × List Key => r.2) (okeyOf st) L labs pm
  have hll : L.length = labs'.length := by
    have := congrArg List.length el
    rw [List.length_map, List.length_map] at this
    exact this.symm
  have hl' : labs'.length ≤ 30 := by rw [pl.length_eq]; exact hl
  -- what each name leads to
  have look : ∀ a ∈ labs', ∃ v, valV kvs (.inr a.name) = some v ∧ LabAt H v a := fun a ha => by
    obtain ⟨j, hj, e⟩ := List.getElem_of_mem (pl.mem_iff.mp ha)
    have hb : labs[j]? = some a := by rw [List.getElem?_eq_getElem hj, e]
    have hv := List.getElem?_eq_getElem (l := vs) (i := j) (by omega)
    obtain ⟨b, hb2, Lb⟩ := labs_get hL hv
    rw [hb] at hb2
    cases hb2
    exact ⟨_, hval j a _ hj hb hv, Lb⟩
  have s3 := same_new (o := .lst (L.map fun r => V.ref r.1)) hp
  have hp3 : upd H2 p (.lst (L.map fun r => V.ref r.1)) p = some (.lst (L.map fun r => V.ref r.1)) := upd_same
  generalize upd H2 p (.lst (L.map fun r => V.ref r.1)) = H3 at s3 hp3 ⊢
  have s23 := s2.trans s3
  refine ⟨p, rfl, ⟨_, SqL.of hp3⟩, fun D3 hD3 => ?_⟩
  refine lc_fm (walk_list (xs := L.map fun r => V.ref r.1)) (fun i => some ((labs'[i]?.map fun a => (valV kvs (.inr a.name)).getD .non).getD .non)) hD3 (by rw [List.length_map, hll, sizeLine_eq]; omega) (fun H4 s4 => SqL.of (s4 _ _ hp3)) ?_ ?_
  · rintro i v H4 H5 Ky Kn hi s4 ⟨rfl, hv⟩ ky kn
    rw [List.getElem?_map] at hv
    obtain ⟨r, hr, rfl⟩ := Option.map_eq_some_iff.mp hv
    have hi' : i < labs'.length := by
      rw [← hll]
      exact (List.getElem?_eq_some_iff.mp hr).1
    have ha := List.getElem?_eq_getElem hi'
    generalize labs'[i] = a at ha
    have er : r.2 = okeyOf st a := by
      have := congrArg (fun l : List (List Key) => l[i]?) el
      rw [List.getElem?_map, List.getElem?_map, ha, hr] at this
      exact (Option.some.inj this).symm
    have hrt := s4 _ _ (s3 _ _ (hkt r (hin r (List.mem_of_getElem? hr))))
    rw [er] at hrt
    obtain ⟨u, hu, _⟩ := look a (List.mem_of_getElem? ha)
    have hg : DGet H5 D (.str a.name) (some u) := by
      have := DGet.k (k := Sum.inr a.name) (s4 _ _ (s23 _ _ hk1))
      rw [hu] at this
      exact this
    refine ⟨rfl, _, rfl, _, rfl, r.1, _, _, _, rfl, rfl, SqT.of hrt, atI_nat (j := 2) rfl, D, _, rfl, hg, ky _ _ ?_ (Same.refl _)⟩
    rw [ha, Option.map_some, hu]
    rfl
  intro H4 s4 hD4
  rw [fm_some, List.length_map, hll, map_get labs' (fun a => (valV kvs (.inr a.name)).getD .non)] at hD4
  refine ⟨D3, _, rfl, .inl ⟨SqL.of hD4, fun t ht => ?_⟩⟩
  have s5 := ((s1.trans s23).trans s4).trans (same_new (o := .tup (labs'.map fun a => (valV kvs (.inr a.name)).getD .non)) ht)
  refine q _ t _ labs' s5 upd_same (labs_map fun a ha => ?_) pl ?_
  · obtain ⟨u, hu, La⟩ := look a ha
    rw [hu]
    exact La.same s5
  · have h1 : (L.map fun r => r.2).Pairwise (fun a b => ltK a b = true) := List.pairwise_map.mpr hpw
    rw [← el] at h1
    exact List.pairwise_map.mp h1
end
end SK
set_option maxHeartbeats 4000000
namespace SL
open PySem PySem.Spec PyProof.Rows L2
theorem Kn.kTup {K : PySem.W.Frag} {H : Hp} {v : V} {n : String} (k : Kn H v n) : PySem.W.kitOne K (.type n) (.type "tuple") = some (n == "tuple") := by
  cases k <;> first | rfl | (unfold PySem.W.kitOne; rfl) | decide +kernel
def spIsTup : Sp := sp3 fun v a b H Q _ => ∃ i j : Int, a = .int i ∧ b = .int j ∧ ((∃ t xs, v = .ref t ∧ H t = some (.tup xs) ∧ Q (.bl (decide (i ≤ (xs.length : Nat)) && decide (((xs.length : Nat) : Int) ≤ j))) H) ∨ (∃ n, Kn H v n ∧ n ≠ "tuple" ∧ Q (.bl false) H))
end SL
namespace SK
open PySem PySem.Spec PyProof.Rows L2 SL
section
variable {w : World} {K : PySem.W.Frag} {mg : Str → Option Value} {base : Heap}
abbrev n_is_tuple : List Str := ["value", "least", "most"]
theorem sc_is_tuple : FnScope n_is_tuple ["value", "least", "most"] (defScope d_is_tuple) := ⟨rfl, rfl, rfl, by decide +kernel, rfl, by decide +kernel, by decide +kernel⟩
theorem ok_is_tuple (T : Top w K mg) : Has prg w K mg base CX0 1 (He.ga K "is_tuple") ["value", "least", "most"] spIsTup := by
  obtain ⟨fd, F⟩ := T.F_is_tuple
  refine ⟨fd, F.ok (k := 0) sc_is_tuple (fun _ _ _ _ h => sp3_len h) (fun cdv A outer s H vs Q E hr h => ?_), F.bindsN (fun _ _ _ _ _ _ us hl => match us, hl with | [_, _, _], _ => rfl), F.kp⟩
  obtain ⟨v0, v1, v2, rfl, h⟩ := h
  refine ⟨_, PSs.nox (pss_one (ps_ret (pe_and (pe_callB call_isi (by rfl) T.b_isinstance (by decide +kernel) (pa_cons (pv 0) (pa_cons (pe_bltn (v := .ty "tuple") (by rfl) T.b_tuple (by decide +kernel) rfl) pa_nil))) (pe_one (pe_chain op_le op_le (pv 1) (pe_callB call_len (by rfl) T.b_len (by decide +kernel) (pa_cons (pv 0) pa_nil)) (pv 2)))))), ?_⟩
  obtain ⟨i, j, rfl, rfl, h⟩ := h
  rcases h with ⟨t, xs, rfl, ht, q⟩ | ⟨n, kn, hn, q⟩
  · have kn : Kn H (.ref t) "tuple" := .tup ht
    refine ⟨_, rfl, _, _, _, _, _, rfl, .ty _, kn.tyx, kn.kTup, _, rfl, ?_⟩
    refine ⟨_, rfl, _, rfl, _, xs.length, rfl, .inr ⟨_, SqT.of ht, rfl⟩, _, _, rfl, rfl, _, rfl, ?_⟩
    by_cases g : i ≤ (xs.length : Nat)
    · rw [decide_eq_true g, Bool.true_and] at q
      rw [decide_eq_true g]
      exact ⟨_, rfl, _, _, rfl, rfl, q⟩
    · rw [decide_eq_false g, Bool.false_and] at q
      rw [decide_eq_false g]
      exact q
  · refine ⟨_, rfl, _, _, _, _, _, rfl, .ty _, kn.tyx, kn.kTup, _, rfl, ?_⟩
    rw [beq_eq_false_iff_ne.mpr hn]
    exact q
end
end SK
set_option maxHeartbeats 4000000
namespace SL
open PySem PySem.Spec PyProof.Rows L2
def inR (i a b : Int) : Bool := decide (a ≤ i) && decide (i ≤ b)
def labOk (st : RSt) (l : Lab) : Bool := isName l.name && (decide (l.kind ∈ names st) && (match rowAt st l with
  | some r => inR l.letters r.least r.most && (inR l.weight 0 9 && (inR l.x (-99999) 99999 && inR l.y (-99999) 99999))
  | none => false))
end SL
namespace SK
open PySem PySem.Spec PyProof.Rows L2 SL
section
variable {w : World} {K : PySem.W.Frag} {mg : Str → Option Value} {base : Heap}
def spIsLab (K : PySem.W.Frag) : Sp := sp2 fun s v H Q _ => ∃ x st lab, StAt K H s x st ∧ LabAt H v lab ∧ lab.name.length ≤ 1000 ∧ ∀ H', Same H H' → Q (.bl (labOk st lab)) H'
abbrev n_is_label : List Str := ["style", "value", "name", "kind", "letters", "weight", "x", "y", "least", "most"]
theorem sc_is_label : FnScope n_is_label ["style", "value"] (defScope d_is_label) := ⟨rfl, rfl, rfl, by decide +kernel, rfl, by decide +kernel, by decide +kernel⟩
theorem ok_is_label (T : Top w K mg) : Has prg w K mg base CX0 4 (He.ga K "is_label") ["style", "value"] (spIsLab K) := by
  obtain ⟨fd, F⟩ := T.F_is_label
  obtain ⟨fd_is_tuple, G_is_tuple, b_is_tuple, k_is_tuple⟩ := ok_is_tuple (base := base) T
  obtain ⟨fd_is_name, G_is_name, b_is_name, k_is_name⟩ := ok_is_name (base := base) T
  obtain ⟨fd_is_place, G_is_place, b_is_place, k_is_place⟩ := ok_is_place (base := base) T
  obtain ⟨fd_is_weight, G_is_weight, b_is_weight, k_is_weight⟩ := ok_is_weight (base := base) T
  obtain ⟨fd_is_between, G_is_between, b_is_between, k_is_between⟩ := ok_is_between (base := base) T
  refine ⟨fd, F.ok (k := 3) sc_is_label (fun _ _ _ _ h => sp2_len h) (fun cdv A outer s H vs Q E hr h => ?_), F.bindsN (fun _ _ _ _ _ _ us hl => match us, hl with | [_, _], _ => rfl), F.kp⟩
  obtain ⟨v0, v1, rfl, h⟩ := h
  refine ⟨_, PSs.nox (pss_cons (ps_if (pt_not (pt_val (pe_call G_is_tuple (hr.mono (by decide)) (by rfl) T.g_is_tuple k_is_tuple b_is_tuple .nil pass0 (pa_cons (pv 1) (pa_cons (pe_cI (by rfl) T.c_LABEL_PARTS) (pa_cons (pe_cI (by rfl) T.c_LABEL_PARTS) pa_nil)))))) (pss_one (ps_ret pe_bl)) pss_nil)
    (pss_cons (ps_asg (pv 1) (pg_tup rfl (pgs_cons (pg_name (i := 2) sc_is_label.nd rfl (Or.inl rfl)) (pgs_cons (pg_name (i := 3) sc_is_label.nd rfl (Or.inl rfl)) (pgs_cons (pg_name (i := 4) sc_is_label.nd rfl (Or.inl rfl)) (pgs_cons (pg_name (i := 5) sc_is_label.nd rfl (Or.inl rfl)) (pgs_cons (pg_name (i := 6) sc_is_label.nd rfl (Or.inl rfl)) (pgs_cons (pg_name (i := 7) sc_is_label.nd rfl (Or.inl rfl)) pgs_nil))))))))
    (pss_cons (ps_if (PW.pt (pw_or (pt_not (pt_val (pe_call G_is_name (hr.mono (by decide)) (by rfl) T.g_is_name k_is_name b_is_name .nil pass0 (pa_cons (pv 2) pa_nil)))) (pw_or (pt_not (pt_val (pe_callB call_isi (by rfl) T.b_isinstance (by decide +kernel) (pa_cons (pv 3) (pa_cons (pe_bltn (v := .ty "str") (by rfl) T.b_str (by decide +kernel) rfl) pa_nil))))) (pw_or1 (pt_cmp (pc_dnotin (hu_of hr) (pv 3) (pe_fld (pv 0) rfl))))))) (pss_one (ps_ret pe_bl)) pss_nil)
    (pss_cons (ps_asg (pe_fld (pe_ix ix_tup (pe_fld (pv 0) rfl) (pe_dget (hu_of hr) (pe_fld (pv 0) rfl) (pv 3) (fun _ _ => rfl)) (fun _ _ => rfl)) rfl) (pg_tup rfl (pgs_cons (pg_name (i := 8) sc_is_label.nd rfl (Or.inl rfl)) (pgs_cons (pg_name (i := 9) sc_is_label.nd rfl (Or.inl rfl)) pgs_nil))))
    (pss_one (ps_ret (pe_and (pe_call G_is_between (hr.mono (by decide)) (by rfl) T.g_is_between k_is_between b_is_between .nil pass0 (pa_cons (pv 4) (pa_cons (pv 8) (pa_cons (pv 9) pa_nil)))) (pe_and (pe_call G_is_weight (hr.mono (by decide)) (by rfl) T.g_is_weight k_is_weight b_is_weight .nil pass0 (pa_cons (pv 5) pa_nil)) (pe_and (pe_call G_is_place (hr.mono (by decide)) (by rfl) T.g_is_place k_is_place b_is_place .nil pass0 (pa_cons (pv 6) pa_nil)) (pe_one (pe_call G_is_place (hr.mono (by decide)) (by rfl) T.g_is_place k_is_place b_is_place .nil pass0 (pa_cons (pv 7) pa_nil)))))))))))), ?_⟩
  obtain ⟨x, st, lab, S, ⟨tl, rfl, hl⟩, hnl, q⟩ := h
  refine ⟨_, rfl, _, _, _, rfl, 6, 6, rfl, rfl, .inl ⟨tl, _, rfl, hl, _, rfl, ?_⟩⟩
  obtain ⟨⟨ss, sdx, a1, a2, a3, a4, vs, kvs, ws, rfl, g1, g2, g3, g4, g5, g6, g7, g8⟩, wf, le⟩ := id S
  refine ⟨_, rfl, tl, _, rfl, SqT.of hl, rfl, _, _, rfl, _, _, rfl, _, _, rfl, _, _, rfl, _, _, rfl, _, _, rfl, rfl, ?_⟩
  refine ⟨_, rfl, _, rfl, lab.name, rfl, Nat.le_trans hnl (by decide), fun H1 s1 => ⟨_, rfl, ?_⟩⟩
  unfold labOk at q
  cases hnm : isName lab.name with
  | false =>
    rw [hnm, Bool.false_and] at q
    exact q _ s1
  | true =>
    rw [hnm, Bool.true_and] at q
    have kn : Kn H1 (.str lab.kind) "str" := .str _
    refine ⟨_, rfl, _, _, _, _, _, rfl, .ty _, kn.tyx, kn.kStr, _, rfl, ?_⟩
    refine ⟨_, rfl, _, rfl, ss, _, sdx, _, _, rfl, s1 _ _ g1, T.cl_Style, T.na_Style_own_ranks, rfl, a2, _, rfl, DGet.k (k := Sum.inr lab.kind) (s1 _ _ g4), _, rfl, ?_⟩
    rw [g5]
    by_cases hk : lab.kind ∈ names st
    case neg =>
      rw [if_neg hk]
      rw [decide_eq_false hk, Bool.false_and] at q
      exact q _ s1
    rw [if_pos hk]
    rw [decide_eq_true hk, Bool.true_and] at q
    have hg : DGet H1 a2 (.str lab.kind) (some (.int (rkOf st lab : Nat))) := by
      have := DGet.k (k := Sum.inr lab.kind) (s1 _ _ g4)
      rw [g5, if_pos hk] at this
      exact this
    have hlt : rkOf st lab < vs.length := by
      rw [g3.len]
      have := List.idxOf_lt_length_of_mem hk
      unfold names at this
      rw [List.length_map] at this
      exact this
    have hv := List.getElem?_eq_getElem hlt
    obtain ⟨r, hr, hra⟩ := g3.get hv
    have hrow : rowAt st lab = some r := hr
    rw [hrow] at q
    obtain ⟨c, dc, t1, t2, ec, hc, ht1, ht2⟩ := hra.same s1
    rw [ec] at hv
    refine ⟨_, rfl, ss, _, sdx, _, _, rfl, s1 _ _ g1, T.cl_Style, T.na_Style_own_rows, rfl, _, rfl, ss, _, sdx, _, _, rfl, s1 _ _ g1, T.cl_Style, T.na_Style_own_ranks, rfl, _, rfl, a2, _, rfl, hg, a1, _, _, _, rfl, rfl, SqT.of (s1 _ _ g2), atI_nat (j := rkOf st lab) hv,
      c, _, dc, _, _, rfl, hc, T.cl_ClassRow, T.na_ClassRow_own_letters, rfl, t1, _, rfl, SqT.of ht1, rfl, _, _, rfl, _, _, rfl, rfl, ?_⟩
    refine ⟨_, rfl, _, rfl, _, rfl, _, _, _, rfl, r.least, r.most, rfl, rfl, ⟨_, .int _⟩, _, rfl, ?_⟩
    have q2 := q _ s1
    dsimp only at q2
    change Q (.bl (betw (.int lab.letters) r.least r.most && (betw (.int lab.weight) 0 9 && (betw (.int lab.x) (-99999) 99999 && betw (.int lab.y) (-99999) 99999)))) H1 at q2
    cases e1 : betw (.int lab.letters) r.least r.most with
    | false =>
      rw [e1, Bool.false_and] at q2
      exact q2
    | true =>
      rw [e1, Bool.true_and] at q2
      refine ⟨_, rfl, _, rfl, ⟨_, .int _⟩, _, rfl, ?_⟩
      cases e2 : betw (.int lab.weight) 0 9 with
      | false =>
        rw [e2, Bool.false_and] at q2
        exact q2
      | true =>
        rw [e2, Bool.true_and] at q2
        refine ⟨_, rfl, _, rfl, ⟨_, .int _⟩, _, rfl, ?_⟩
        cases e3 : betw (.int lab.x) (-99999) 99999 with
        | false =>
          rw [e3, Bool.false_and] at q2
          exact q2
        | true =>
          rw [e3, Bool.true_and] at q2
          exact ⟨_, rfl, _, rfl, ⟨_, .int _⟩, q2⟩
end
end SK
set_option maxHeartbeats 4000000
namespace SL
open PySem PySem.Spec PyProof.Rows L2
section
variable {X : Cx} {CX : CXT} {k : Nat} {C g : Addr} {sp : Sp} {E : XK} {fe e : Expr} {es : List Expr} {tf : TE} {t : TA} {pos : Pos}
end
end SL
namespace SL
open PySem PySem.Spec PyProof.Rows L2
section
variable {X : Cx} {K : PySem.W.Frag}
theorem pi_tupK {tg e : Expr} {te : TE} (hK : X.K = K) (he : PE X e te) : PI X tg e (iTup K te) := by subst hK; exact pi_tup he
end
end SL
namespace SL
open PySem PySem.Spec PyProof.Rows L2
end SL
set_option maxHeartbeats 4000000
namespace SL
open PySem PySem.Spec PyProof.Rows L2
def seqO (b : Bool) (xs : List V) : HO := if b = true then .lst xs else .tup xs
def Sq2 (b : Bool) (K : PySem.W.Frag) (H : Hp) (a : Addr) (xs : List V) : Prop := if b = true then SqL K H a xs else SqT K H a xs
theorem Sq2.of {b : Bool} {K : PySem.W.Frag} {H : Hp} {a : Addr} {xs : List V} (h : H a = some (seqO b xs)) : Sq2 b K H a xs := by
  cases b with
  | true => exact SqL.of h
  | false => exact SqT.of h
def It2 (b : Bool) (K : PySem.W.Frag) (a : Addr) : It := if b = true then Itl K a else Itt K a
def iSeq2 (K : PySem.W.Frag) (tl : TE) : TI := fun σ H R => tl σ H fun x H1 => ∃ a b, x = .ref a ∧ (∃ xs, Sq2 b K H1 a xs) ∧ R (It2 b K a) H1
theorem pi_seq2 {X : Cx} {tg l : Expr} {tl : TE} (hl : PE X l tl) : PI X tg l (iSeq2 X.K tl) := by
  constructor
  intro pins s σ H R I h
  refine thn (hl.run pins s σ H _ I h) fun v s1 z => ?_
  obtain ⟨x, H1, I1, r1, a, b, rfl, ⟨xs, hq⟩, q⟩ := z
  cases r1
  have fp : ∀ b ∈ [s1.heap.objs.size], FpOk X pins H1 b := fun b hb => by
    rw [List.mem_singleton.mp hb]
    exact I1.fpOk (Nat.le_refl _) (I1.hok.fresh (Nat.le_refl _))
  cases b with
  | true =>
    have hq : SqL X.K H1 a xs := hq
    obtain ⟨its, rv, p, hz⟩ := I1.list hq
    exact wpAny_pyIter_list p.isList ⟨s1.heap.objs.size, [s1.heap.objs.size], _, _, H1, rfl, I1.kept (t' := s1.toks) fun b o e => Heap.get?_push_of_some _ e, turn_list a _, ⟨_, Heap.get?_push_size _ rfl, rfl, rfl⟩, fp, q⟩
  | false =>
    have hq : SqT X.K H1 a xs := hq
    obtain ⟨its, rv, p, hz⟩ := I1.tuple hq
    exact wpAny_pyIter_tuple (show s1.heap.IsTuple a its.toArray from p) ⟨s1.heap.objs.size, [s1.heap.objs.size], _, _, H1, rfl, I1.kept (t' := s1.toks) fun b o e => Heap.get?_push_of_some _ e, turn_tuple a _, ⟨_, Heap.get?_push_size _ rfl, rfl, rfl⟩, fp, q⟩
theorem walk_2 {b : Bool} {K : PySem.W.Frag} {a : Addr} {xs : List V} : Walk (It2 b K a) xs.length (fun H => Sq2 b K H a xs) (YAt xs) := by
  cases b with
  | true => exact walk_list
  | false => exact walk_tup
end SL
set_option maxHeartbeats 4000000
namespace SL
open PySem PySem.Spec PyProof.Rows L2
def nearOf (st : RSt) (l v : Lab) : Bool := decide (l.name = v.name) || decide (gapOf l v < farOf st (rankP (rkOf st l) (rkOf st v)))
def canOf (st : RSt) (ls : List Lab) (v : Lab) : Bool := decide (ls.length < 30) && (labOk st v && ls.all fun l => !nearOf st l v)
theorem labOk_kind {st : RSt} {l : Lab} (h : labOk st l = true) : l.kind ∈ names st := by
  unfold labOk at h
  rw [Bool.and_eq_true, Bool.and_eq_true] at h
  exact of_decide_eq_true h.2.1
theorem all_get {α : Type} (p : α → Bool) : ∀ {l : List α} {i : Nat} {a : α}, l[i]? = some a → p a = false → l.all p = false := fun {l i a} h e => by
  rw [List.all_eq_false]
  exact ⟨a, List.mem_of_getElem? h, by rw [e]; exact Bool.false_ne_true⟩
end SL
namespace SK
open PySem PySem.Spec PyProof.Rows L2 SL
section
variable {w : World} {K : PySem.W.Frag} {mg : Str → Option Value} {base : Heap}
def spCanStand (K : PySem.W.Frag) : Sp := sp3 fun s l v H Q _ => ∃ x st t0 vs ls lab bm, StAt K H s x st ∧ l = .ref t0 ∧ H t0 = some (seqO bm vs) ∧ LabsAt H vs ls ∧ (∀ a ∈ ls, a.kind ∈ names st) ∧ LabAt H v lab ∧ lab.name.length ≤ 1000 ∧ ∀ H', Same H H' → Q (.bl (canOf st ls lab)) H'
abbrev n_can_stand : List Str := ["style", "labels", "value", "rank", "label"]
theorem sc_can_stand : FnScope n_can_stand ["style", "labels", "value"] (defScope d_can_stand) := ⟨rfl, rfl, rfl, by decide +kernel, rfl, by decide +kernel, by decide +kernel⟩
theorem ok_can_stand (T : Top w K mg) : Has prg w K mg base CX0 5 (He.ga K "can_stand") ["style", "labels", "value"] (spCanStand K) := by
  obtain ⟨fd, F⟩ := T.F_can_stand
  obtain ⟨fd_is_label, G_is_label, b_is_label, k_is_label⟩ := ok_is_label (base := base) T
  obtain ⟨fd_gap_between, G_gap_between, b_gap_between, k_gap_between⟩ := ok_gap_between (base := base) T
  obtain ⟨fd_Style_distance, G_Style_distance, b_Style_distance, k_Style_distance⟩ := ok_Style_distance (base := base) T
  refine ⟨fd, F.ok (k := 4) sc_can_stand (fun _ _ _ _ h => sp3_len h) (fun cdv A outer s H vs Q E hr h => ?_), F.bindsN (fun _ _ _ _ _ _ us hl => match us, hl with | [_, _, _], _ => rfl), F.kp⟩
  obtain ⟨v0, v1, v2, rfl, h⟩ := h
  refine ⟨_, PSs.nox (pss_cons (ps_if (PW.pt (pw_or (pt_cmpR op_ge (pe_callB call_len (by rfl) T.b_len (by decide +kernel) (pa_cons (pv 1) pa_nil)) (pe_cI (by rfl) T.c_MOST_LABELS) (nomark _)) (pw_or1 (pt_not (pt_val (pe_call G_is_label (hr.mono (by decide)) (by rfl) T.g_is_label k_is_label b_is_label .nil pass0 (pa_cons (pv 0) (pa_cons (pv 2) pa_nil)))))))) (pss_one (ps_ret pe_bl)) pss_nil)
    (pss_cons (ps_set (i := 3) sc_can_stand.nd rfl (Or.inl rfl) (pe_dget (hu_of hr) (pe_fld (pv 0) rfl) (pe_ix ix_tup (pv 2) pe_int (fun _ _ => rfl)) (fun _ _ => rfl)))
    (pss_cons (ps_for PassesOwn.never rfl (pi_seq2 (pv 1)) (pg_name (i := 4) sc_can_stand.nd rfl (Or.inl rfl)) (pss_one (ps_if (PW.pt (pw_or (pt_cmpR op_eq (pe_ix ix_tup (pv 4) pe_int (fun _ _ => rfl)) (pe_ix ix_tup (pv 2) pe_int (fun _ _ => rfl)) (nomark _)) (pw_or1 (pt_cmpR op_lt (pe_call G_gap_between (hr.mono (by decide)) (by rfl) T.g_gap_between k_gap_between b_gap_between .nil pass0 (pa_cons (pv 4) (pa_cons (pv 2) pa_nil))) (pe_meth (pv 0) T.cl_Style T.m_Style_distance G_Style_distance (hr.mono (by decide)) b_Style_distance .nil pass0 (pa_cons (pe_dget (hu_of hr) (pe_fld (pv 0) rfl) (pe_ix ix_tup (pv 4) pe_int (fun _ _ => rfl)) (fun _ _ => rfl)) (pa_cons (pv 3) pa_nil))) (nomark _))))) (pss_one (ps_ret pe_bl)) pss_nil)))
    (pss_one (ps_ret pe_bl))))), ?_⟩
  obtain ⟨x, st, t0, vs, ls, lab, bm, S, rfl, h0, hL, hk, L0, hnl, q⟩ := h
  obtain ⟨tl, rfl, hl⟩ := id L0
  have hlen := labs_len hL
  obtain ⟨⟨ss, sdx, a1, a2, a3, a4, vs2, kvs, ws, rfl, g1, g2, g3, g4, g5, g6, g7, g8⟩, wf, le⟩ := id S
  have hg : ∀ {G : Hp} {l : Lab}, Same H G → l.kind ∈ names st → DGet G a2 (.str l.kind) (some (.int (rkOf st l : Nat))) := fun {G l} s hk => by
    have := DGet.k (k := Sum.inr l.kind) (s _ _ g4)
    rw [g5, if_pos hk] at this
    exact this
  unfold canOf at q
  refine ⟨_, rfl, _, vs.length, rfl, (by cases bm with | true => exact .inl ⟨_, SqL.of h0, rfl⟩ | false => exact .inr ⟨_, SqT.of h0, rfl⟩), _, _, rfl, rfl, _, rfl, ?_⟩
  by_cases h30 : ls.length < 30
  case neg =>
    rw [decide_eq_false h30, Bool.false_and] at q
    rw [decide_eq_true (show (30 : Int) ≤ (vs.length : Nat) by omega)]
    exact q _ (Same.refl _)
  rw [decide_eq_true h30, Bool.true_and] at q
  rw [decide_eq_false (show ¬ (30 : Int) ≤ (vs.length : Nat) by omega)]
  refine ⟨_, rfl, _, rfl, _, _, rfl, x, st, lab, S, L0, hnl, fun H1 s1 => ⟨_, rfl, ?_⟩⟩
  cases hok : labOk st lab with
  | false =>
    rw [hok, Bool.false_and] at q
    exact q _ s1
  | true =>
    rw [hok, Bool.true_and] at q
    have hkl := labOk_kind hok
    refine ⟨_, rfl, ss, _, sdx, _, _, rfl, s1 _ _ g1, T.cl_Style, T.na_Style_own_ranks, rfl, _, rfl, tl, _, _, _, rfl, rfl, SqT.of (s1 _ _ hl), atI_nat (j := 1) rfl, a2, _, rfl, hg s1 hkl, ?_⟩
    refine ⟨_, rfl, t0, bm, rfl, ⟨_, Sq2.of (s1 _ _ h0)⟩, ?_⟩
    refine for_it (walk_2 (b := bm) (xs := vs)) (fun i σ H' => ∃ o : Option V, σ = [some (.ref ss), some (.ref t0), some (.ref tl), some (.int (rkOf st lab : Nat)), o] ∧ Same H H' ∧ ∀ j l, j < i → ls[j]? = some l → nearOf st l lab = false)
      ⟨_, rfl, s1, fun j _ hj => absurd hj (Nat.not_lt_zero _)⟩ (fun i σ H' _ ⟨_, _, p, _⟩ => Sq2.of (p _ _ h0)) ?_ ?_
    · rintro i y σ H2 H3 hi ⟨o, rfl, s2, hn⟩ ⟨rfl, hy⟩
      obtain ⟨a, ha, La⟩ := labs_get hL hy
      have La2 := La.same s2
      obtain ⟨ta, rfl, hta⟩ := id La2
      have ed : decide (V.str a.name = V.str lab.name) = decide (a.name = lab.name) := decide_eq_decide.mpr ⟨fun z => V.str.inj z, fun z => congrArg _ z⟩
      have no : nearOf st a lab = true → ∀ H', Same H H' → Q (.bl false) H' := fun e H' s' => by
        have := q H' s'
        rw [all_get (fun l => !nearOf st l lab) ha (by show (!nearOf st a lab) = false; rw [e]; rfl)] at this
        exact this
      refine ⟨_, rfl, ta, _, _, _, rfl, rfl, SqT.of hta, atI_nat (j := 0) rfl, _, rfl, tl, _, _, _, rfl, rfl, SqT.of (s2 _ _ hl), atI_nat (j := 0) rfl, rfl, _, rfl, ?_⟩
      rw [ed]
      by_cases e1 : a.name = lab.name
      · rw [decide_eq_true e1]
        exact no (by unfold nearOf; rw [decide_eq_true e1]; rfl) _ s2
      rw [decide_eq_false e1]
      refine ⟨_, rfl, _, rfl, _, _, rfl, a, lab, La2, L0.same s2, ?_⟩
      refine ⟨_, rfl, ss, sdx, _, rfl, s2 _ _ g1, rfl, _, rfl, ss, _, sdx, _, _, rfl, s2 _ _ g1, T.cl_Style, T.na_Style_own_ranks, rfl, _, rfl, ta, _, _, _, rfl, rfl, SqT.of hta, atI_nat (j := 1) rfl, a2, _, rfl, hg s2 (hk a (List.mem_of_getElem? ha)), _, rfl, _, _, _, rfl, x, st, rkOf st a, rkOf st lab, SAt.same s2 S, rfl, rfl, fun H4 s4 => ?_⟩
      have s24 := s2.trans s4
      refine ⟨_, _, rfl, rfl, _, rfl, ?_⟩
      by_cases e2 : gapOf a lab < farOf st (rankP (rkOf st a) (rkOf st lab))
      · rw [decide_eq_true e2]
        exact no (by unfold nearOf; rw [decide_eq_true e2, Bool.or_true]) _ s24
      · rw [decide_eq_false e2]
        refine ⟨_, rfl, s24, fun j l hj hl2 => ?_⟩
        by_cases e3 : j = i
        · subst e3
          rw [ha] at hl2
          cases hl2
          unfold nearOf
          rw [decide_eq_false e1, decide_eq_false e2]
          rfl
        · exact hn j l (by omega) hl2
    · rintro σ H2 ⟨o, rfl, s2, hn⟩
      have : (ls.all fun l => !nearOf st l lab) = true := by
        rw [List.all_eq_true]
        intro l hl2
        obtain ⟨j, hj, e⟩ := List.getElem_of_mem hl2
        rw [hn j l (by omega) (by rw [List.getElem?_eq_getElem hj, e])]
        rfl
      rw [this] at q
      exact q _ s2
end
end SK
set_option maxHeartbeats 4000000
namespace SL
open PySem PySem.Spec PyProof.Rows L2
theorem enumNew {v : Value} {o : Obj} {G : Heap → Prop} (B : Begins v o G) : Meets (Builtin.«enumerate.__new__» ⟨[.type "enumerate", v], []⟩) (fun _ R s => G s.heap ∧
    R (.ok (.ret (.ref (s.heap.push o).objs.size))) { s with heap := (s.heap.push o).push { cls := .type "enumerate", data := .fields #[.none, .bool false, .ref s.heap.objs.size, rawInt 0, .none, .none] } }) :=
  .of_wp fun prog w A R s h => by
    obtain ⟨hp, g, d, tk, os⟩ := s
    obtain ⟨h1, h2⟩ := h
    have sub := sub_enumerate
    have q : ∀ {A' : Around} {E : Value → Shared → Prop} {Q : Value → Shared → Prop}, Q (.ref hp.objs.size) ⟨hp.push o, g, d, tk, os⟩ → wpAny (model prog w) A' (pyIter v) Q E ⟨hp, g, d, tk, os⟩ :=
      fun z => B.iter prog w _ _ ⟨hp, g, d, tk, os⟩ _ h1 z
    wp_walk using q
    refine wpAny_stack_any fun st => wpAny_pure ?_
    split
    · rename_i c _ _ _ _ _
      cases (c == Value.type "enumerate") <;> (wp_walk using q; exact ⟨_, rfl, h2⟩)
    · wp_walk using q
      exact ⟨_, rfl, h2⟩
theorem enumCall {P : Program} {w : World} {A : Around} {E : Value → Shared → Prop} {s : Shared} {v : Value} {o : Obj} {G : Heap → Prop} {Q : Value → Shared → Prop} (B : Begins v o G) (h1 : G s.heap)
    (q : ∀ h', IsEnum h' (s.heap.objs.size + 1) s.heap.objs.size 0 .none → h'.get? s.heap.objs.size = some o → (∀ b o, s.heap.get? b = some o → h'.get? b = some o) → Q (.ref (s.heap.objs.size + 1)) { s with heap := h' }) :
    wpAny (model P w) A (call (.type "enumerate") [v]) Q E s := by
  refine callType_new F.called_enumerate (by decide) (F.typeCall_enumerate_1 _) (F.newCall_enumerate_1 _) (fun ob => F.args_object_init_2 ob _) F.entry_enumerate_new (enumNew B) ⟨h1, ?_⟩
  have z : (s.heap.push o).objs.size = s.heap.objs.size + 1 := Heap.size_push ..
  have ie := Heap.get?_push_size (s.heap.push o) (o := { cls := .type "enumerate", data := .fields #[.none, .bool false, .ref s.heap.objs.size, rawInt 0, .none, .none] }) rfl
  rw [z] at ie
  show _ ∧ _
  rw [z]
  exact ⟨⟨_, ie, rfl⟩, q _ ie (Heap.get?_push_of_some _ (Heap.get?_push_size _ B.free)) fun b u e => Heap.get?_push_of_some _ (Heap.get?_push_of_some _ e)⟩
def IteT (K : PySem.W.Frag) (a : Addr) : It :=
  ⟨fun i H => ∃ (xs : List V) (x : V), SqT K H a xs ∧ xs[i]? = some x, fun i H v H' => ∃ T x, v = .ref T ∧ H T = none ∧ H' = upd H T (.tup [.int (i : Nat), x]) ∧ ∀ xs, SqT K H a xs → xs[i]? = some x, fun i H => ∃ xs : List V, SqT K H a xs ∧ xs.length = i⟩
theorem turnT {P : Program} {w : World} {K : PySem.W.Frag} {elts : List Expr} {kk : Nat} {tpos : Pos} {a e it : Addr} (n1 : e ≠ it) (n2 : a ≠ it) (n3 : e ≠ a) :
    Turn P w K (.Tuple elts kk tpos) (IteT K a) [e, it] e (fun i h => (∃ old, IsEnum h e it ((i : Nat) : Int) old) ∧ h.IsTupleIter it a i) where
  mem := by simp
  obj := fun i h st b hb => by
    obtain ⟨⟨old, he⟩, o, ho, hc, hd⟩ := st
    rcases List.mem_cons.mp hb with z | z
    · rw [z]
      exact ⟨_, he, fun v q => nomatch q⟩
    · rw [List.mem_singleton.mp z]
      exact ⟨o, ho, fun v q => by rw [hd] at q; cases q⟩
  keep := fun i h h' st k => by
    obtain ⟨⟨old, he⟩, hi⟩ := st
    exact ⟨⟨old, k e (by simp) _ he⟩, hi.at fun o q => k it (by simp) o q⟩
  item := by
    intro X hP hw hK hc i pins s σ H E I hf st hg
    subst hP hw hK
    obtain ⟨⟨old, he⟩, hit⟩ := st
    obtain ⟨xs, x, hq, hx⟩ := hg
    obtain ⟨its, rv, p, hz⟩ := I.tuple hq
    obtain ⟨u, hu, ru⟩ := rv.get hx
    have l1 : e < s.heap.objs.size := Heap.lt_size he
    have l2 : it < s.heap.objs.size := by
      obtain ⟨_, q, _⟩ := hit
      exact Heap.lt_size q
    have nf : e ∉ [it, a] := fun z => by
      rcases List.mem_cons.mp z with z | z
      · exact n1 z
      · exact n3 (List.mem_singleton.mp z)
    have hlt : i < its.toArray.size := by
      have := (List.getElem?_eq_some_iff.mp hu).1
      simpa using this
    refine wpAny_pyNext_enum_itemD (Draws.tuple (A := X.A.in1) (I.ok.hd hc) it a n2 its.toArray) he ⟨hit, p⟩ hlt n1 nf fun y h1 tk hy ho hs1 hT hsz hk => ?_
    have ey : y = u := by
      have hy : its.toArray[i]? = some y := hy
      rw [List.getElem?_toArray, hu] at hy
      exact (Option.some.inj hy).symm
    subst ey
    refine ⟨_, rfl, wpAny_letOwnedTupleGo_enum (s := { s with heap := h1, toks := tk + 1 }) ho fun h2 he2 sb => ?_⟩
    have hT2 : h2.get? s.heap.objs.size = some { cls := .type "tuple", data := .seq #[.int i tk, y] } := (sb.2 _ (Nat.ne_of_gt l1)).trans hT
    have new : ObjOk X.prog X.w (upd H s.heap.objs.size (.tup [.int (i : Nat), x])) h2 s.heap.objs.size (.tup [.int (i : Nat), x]) :=
      ⟨by show 2 ≤ sizeLine; decide, [.int i tk, y], .cons ⟨_, rfl⟩ (.cons ru .nil), ⟨_, hT2, rfl, _, rfl⟩⟩
    have I1 : Inv X pins σ (upd H s.heap.objs.size (.tup [.int (i : Nat), x])) { s with heap := h2, toks := tk + 1 } :=
      I.turnedNew (ch := [e, it]) (fun b ob hb q => (sb.2 b (fun z => hb (by simp [z]))).trans (hk b ob (fun z => hb (by simp [z])) (fun z => hb (by simp [z])) q)) hf (Nat.le_refl _) new
    refine ⟨.ref s.heap.objs.size, _, I1, rfl, ⟨_, x, rfl, I.hok.fresh (Nat.le_refl _), rfl, fun ys hy2 => ?_⟩, ⟨⟨y, ?_⟩, hs1.1.at fun o q => (sb.2 it (Ne.symm n1)).trans q⟩, fun b hb => ?_⟩
    · rw [I.tuple_inj hy2 hq]
      exact hx
    · rw [show ((i + 1 : Nat) : Int) = (i : Int) + 1 by omega]
      exact he2
    · have hb2 : b < s.heap.objs.size := by
        rcases List.mem_cons.mp hb with z | z
        · rw [z]; exact l1
        · rw [List.mem_singleton.mp z]; exact l2
      rw [upd_ne (Nat.ne_of_lt hb2)]
      exact (hf b hb).1
  done := by
    intro X hP hw hK hc i pins s σ H E I hf st hg
    subst hP hw hK
    obtain ⟨⟨old, he⟩, hit⟩ := st
    obtain ⟨xs, hq, hx⟩ := hg
    obtain ⟨its, rv, p, hz⟩ := I.tuple hq
    obtain ⟨f0, f1, f2, f3, f4, f5⟩ := hf it (by simp)
    have hl := rv.length
    have hn : i = its.toArray.size := by
      rw [← hx, hl]
      simp
    subst hn
    exact wpAny_pyNext_enum_endD (Draws.tuple (A := X.A.in1) (I.ok.hd hc) it a n2 its.toArray) he ⟨hit, p⟩ fun h' eb => ⟨rfl, I.turned (t' := s.toks) (fun b o hb q => eb b o hb q) f0 f1 f3 f4 f5⟩
  self := fun A i s Q E st h => by
    obtain ⟨⟨_, he⟩, _⟩ := st
    exact wpAny_pyIter_enum he h
theorem walk_enumT {K : PySem.W.Frag} {a : Addr} {xs : List V} : Walk (IteT K a) xs.length (fun H => SqT K H a xs) (YPair (fun i => some (.int (i : Nat))) (fun i => xs[i]?)) := by
  refine ⟨fun i _ hi q => ⟨xs, xs[i], q, List.getElem?_eq_getElem hi⟩, fun _ q => ⟨xs, q, rfl⟩, fun i H v H' _ q y => ?_⟩
  obtain ⟨T, x, h1, h2, h3, h4⟩ := y
  exact ⟨T, .int (i : Nat), x, h1, h2, h3, rfl, h4 xs q⟩
def iEnumT (K : PySem.W.Frag) (ta : TA) : TI := fun σ H R => ta σ H fun vs H1 => ∃ a xs, vs = [.ref a] ∧ SqT K H1 a xs ∧ R (IteT K a) H1
theorem pi_enumT {X : Cx} {e : Expr} {ta : TA} {p pos tpos : Pos} {elts : List Expr} {kk : Nat} (hg : Gl X "enumerate") (hm : X.mg "enumerate" = none) (ha : PA X [e] ta) (hs : starEach [e] X.env = [(false, eval e X.env)] := by rfl) :
    PI X (.Tuple elts kk tpos) (.Call (.Name "enumerate" p) [e] [] pos) (iEnumT X.K ta) := by
  constructor
  intro pins s σ H R I h
  refine Call_ (ld_blt I hg hm boot_enumerate (PyProof.Rows.callWith_type1 (thn (ha.run pos pins s σ H _ I h) fun us s1 z => ?_) hs rfl))
  obtain ⟨vs, H1, I1, r1, a, xs, ex, hq, q⟩ := z
  subst ex
  obtain ⟨u, eu, ru⟩ := vals1 r1
  subst eu
  cases ru
  obtain ⟨its, rv, p', hz⟩ := I1.tuple hq
  have la : a < s1.heap.objs.size := by
    obtain ⟨o, ho, _⟩ := p'
    exact Heap.lt_size ho
  refine enumCall (begins_tuple a its.toArray) p' fun h' he ho hk => wpAny_pyIter_enum he ?_
  have I2 : Inv X pins σ H1 { s1 with heap := h' } := I1.kept (t' := s1.toks) hk
  refine ⟨s1.heap.objs.size + 1, [s1.heap.objs.size + 1, s1.heap.objs.size], _, _, H1, rfl, I2, turnT (Nat.succ_ne_self _) (Nat.ne_of_lt la) (Nat.ne_of_gt (Nat.lt_succ_of_lt la)), ⟨⟨.none, he⟩, ⟨_, ho, rfl, rfl⟩⟩, fun b hb => ?_, q⟩
  have hle : s1.heap.objs.size ≤ b := by
    rcases List.mem_cons.mp hb with z | z
    · rw [z]
      exact Nat.le_succ _
    · rw [List.mem_singleton.mp z]
      exact Nat.le_refl _
  exact I1.fpOk hle (I1.hok.fresh hle)
end SL
set_option maxHeartbeats 4000000
namespace SL
open PySem PySem.Spec PyProof.Rows L2
theorem labs_take {H : Hp} : ∀ {vs : List V} {ls : List Lab} (i : Nat), LabsAt H vs ls → LabsAt H (vs.take i) (ls.take i)
  | _, _, 0, _ => .nil
  | _, _, _ + 1, .nil => .nil
  | _, _, i + 1, .cons h r => .cons h (labs_take i r)
theorem LabsAt.same {H H' : Hp} (s : Same H H') : ∀ {vs : List V} {ls : List Lab}, LabsAt H vs ls → LabsAt H' vs ls
  | _, _, .nil => .nil
  | _, _, .cons h r => .cons (LabAt.same h s) (LabsAt.same s r)
theorem cutV_till (xs : List V) (k : Nat) : cutV xs none (some (k : Int)) = xs.take k := by
  unfold cutV
  rw [HT.sIx_nat, HT.sIx_none, List.drop_zero, Nat.sub_zero]
  by_cases h : k ≤ xs.length
  · rw [Nat.min_eq_left h]
  · rw [Nat.min_eq_right (by omega), List.take_length, List.take_of_length_le (by omega)]
def goodTo (st : RSt) (ls : List Lab) (i : Nat) : Prop := ∀ j a, j < i → ls[j]? = some a → canOf st (ls.take j) a = true
theorem canOf_ok {st : RSt} {ls : List Lab} {a : Lab} (h : canOf st ls a = true) : labOk st a = true := by
  unfold canOf at h
  rw [Bool.and_eq_true, Bool.and_eq_true] at h
  exact h.2.1
theorem goodTo_kind {st : RSt} {ls : List Lab} {i : Nat} (g : goodTo st ls i) : ∀ a ∈ ls.take i, a.kind ∈ names st := fun a ha => by
  obtain ⟨j, hj, e⟩ := List.getElem_of_mem ha
  have hj' := hj
  rw [List.length_take] at hj'
  exact labOk_kind (canOf_ok (g j a (by omega) (by rw [List.getElem_take] at e; rw [List.getElem?_eq_getElem (by omega), e])))
end SL
namespace SK
open PySem PySem.Spec PyProof.Rows L2 SL
section
variable {w : World} {K : PySem.W.Frag} {mg : Str → Option Value} {base : Heap}
def spFirstBad (K : PySem.W.Frag) : Sp := sp2 fun s l H Q _ => ∃ x st t0 vs ls, StAt K H s x st ∧ l = .ref t0 ∧ H t0 = some (.tup vs) ∧ LabsAt H vs ls ∧ (∀ a ∈ ls, a.name.length ≤ 1000) ∧ ls.length ≤ 1000 ∧
  (goodTo st ls ls.length → ∀ H', Same H H' → Q (.int 0) H') ∧ (∀ i a, goodTo st ls i → ls[i]? = some a → canOf st (ls.take i) a = false → ∀ H', Same H H' → Q (.int (i + 1)) H')
abbrev n_first_bad : List Str := ["style", "values", "at", "value"]
theorem sc_first_bad : FnScope n_first_bad ["style", "values"] (defScope d_first_bad) := ⟨rfl, rfl, rfl, by decide +kernel, rfl, by decide +kernel, by decide +kernel⟩
theorem ok_first_bad (T : Top w K mg) : Has prg w K mg base CX0 6 (He.ga K "first_bad") ["style", "values"] (spFirstBad K) := by
  obtain ⟨fd, F⟩ := T.F_first_bad
  obtain ⟨fd_can_stand, G_can_stand, b_can_stand, k_can_stand⟩ := ok_can_stand (base := base) T
  refine ⟨fd, F.ok (k := 5) sc_first_bad (fun _ _ _ _ h => sp2_len h) (fun cdv A outer s H vs Q E hr h => ?_), F.bindsN (fun _ _ _ _ _ _ us hl => match us, hl with | [_, _], _ => rfl), F.kp⟩
  obtain ⟨v0, v1, rfl, h⟩ := h
  refine ⟨_, PSs.nox (pss_cons (ps_for PassesOwn.never rfl (pi_enumT (by rfl) T.b_enumerate (pa_cons (pv 1) pa_nil)) (pg_tup rfl (pgs_cons (pg_name (i := 2) sc_first_bad.nd rfl (Or.inl rfl)) (pgs_cons (pg_name (i := 3) sc_first_bad.nd rfl (Or.inl rfl)) pgs_nil))) (pss_one (ps_if (pt_not (pt_val (pe_call G_can_stand (hr.mono (by decide)) (by rfl) T.g_can_stand k_can_stand b_can_stand .nil pass0 (pa_cons (pv 0) (pa_cons (pe_slice sl_tup (pv 1) po_none (po_some (pv 2))) (pa_cons (pv 3) pa_nil)))))) (pss_one (ps_ret (pe_op op_add (pv 2) pe_int))) pss_nil)))
    (pss_one (ps_ret pe_int))), ?_⟩
  obtain ⟨x, st, t0, vs, ls, S, rfl, h0, hL, hn, hl, q0, q1⟩ := h
  have hlen := labs_len hL
  refine ⟨_, rfl, t0, _, rfl, SqT.of h0, ?_⟩
  refine for_it (walk_enumT (K := K) (a := t0) (xs := vs)) (fun i σ H' => ∃ o2 o3 : Option V, σ = [some v0, some (.ref t0), o2, o3] ∧ Same H H' ∧ goodTo st ls i)
    ⟨_, _, rfl, Same.refl _, fun j _ hj => absurd hj (Nat.not_lt_zero _)⟩ (fun i σ H' _ ⟨_, _, _, p, _⟩ => SqT.of (p _ _ h0)) ?_ ?_
  · rintro i y σ H2 H3 hi ⟨o2, o3, rfl, s2, g2⟩ ⟨Tt, x1, y1, rfl, hT, rfl, e1, e2⟩
    cases e1
    have e2 : vs[i]? = some y1 := e2
    obtain ⟨a, ha, La⟩ := labs_get hL e2
    have s3 := s2.trans (same_new (o := .tup [V.int i, y1]) hT)
    refine ⟨Tt, _, rfl, SqT.of upd_same, rfl, _, _, rfl, _, _, rfl, rfl, ?_⟩
    generalize upd H2 Tt (.tup [V.int i, y1]) = H3 at s3 ⊢
    have hil : i < ls.length := by omega
    refine ⟨_, rfl, _, rfl, _, rfl, _, rfl, t0, vs, rfl, SqT.of (s3 _ _ h0), fun z => ?_, fun p hp => ?_⟩
    · have z2 : HT.sIx vs.length vs.length (some ((i : Nat) : Int)) = vs.length := z.2
      rw [HT.sIx_nat] at z2
      omega
    rw [cutV_till]
    have s4 := s3.trans (same_new (o := .tup (vs.take i)) hp)
    have hp4 : upd H3 p (.tup (vs.take i)) p = some (.tup (vs.take i)) := upd_same
    generalize upd H3 p (.tup (vs.take i)) = H4 at s4 hp4 ⊢
    refine ⟨_, rfl, _, _, _, rfl, x, st, p, _, ls.take i, a, false, SAt.same s4 S, rfl, hp4, (labs_take i hL).same s4, goodTo_kind g2, La.same s4, hn a (List.mem_of_getElem? ha), fun H5 s5 => ⟨_, rfl, ?_⟩⟩
    cases hc : canOf st (ls.take i) a with
    | false => exact ⟨_, rfl, _, _, rfl, rfl, q1 i a g2 ha hc _ (s4.trans s5)⟩
    | true =>
      refine ⟨_, _, rfl, s4.trans s5, fun j b hj hb => ?_⟩
      by_cases e : j = i
      · subst e
        rw [ha] at hb
        cases hb
        exact hc
      · exact g2 j b (by omega) hb
  · rintro σ H2 ⟨o2, o3, rfl, s2, g2⟩
    rw [hlen] at g2
    exact q0 g2 _ s2
end
end SK
set_option maxHeartbeats 4000000
namespace SL
open PySem PySem.Spec PyProof.Rows L2
theorem goodTo_far {st : RSt} {ls : List Lab} {n : Nat} (g : goodTo st ls n) {i j : Nat} {a b : Lab} (hij : i < j) (hj : j < n) (ha : ls[i]? = some a) (hb : ls[j]? = some b) : nearOf st a b = false := by
  have h := g j b hj hb
  unfold canOf at h
  rw [Bool.and_eq_true, Bool.and_eq_true, List.all_eq_true] at h
  have hm : a ∈ ls.take j := List.mem_of_getElem? (i := i) (by rw [List.getElem?_take_of_lt hij]; exact ha)
  have := h.2.2 a hm
  cases e : nearOf st a b with
  | false => rfl
  | true => rw [e] at this; cases this
theorem goodTo_nd {st : RSt} {ls : List Lab} (g : goodTo st ls ls.length) : (ls.map (·.name)).Nodup := by
  refine List.pairwise_map.mpr (List.pairwise_iff_getElem.mpr fun i j hi hj hij e => ?_)
  have h := goodTo_far g hij hj (List.getElem?_eq_getElem hi) (List.getElem?_eq_getElem hj)
  unfold nearOf at h
  rw [decide_eq_true e] at h
  cases h
end SL
namespace SK
open PySem PySem.Spec PyProof.Rows L2 SL
section
variable {w : World} {K : PySem.W.Frag} {mg : Str → Option Value} {base : Heap}
abbrev cSh (K : PySem.W.Frag) : Addr := He.ga K "Sheet"
def ShAt (K : PySem.W.Frag) (H : Hp) (v sv : V) (x : Str) (st : RSt) (ls : List Lab) : Prop := ∃ a dx t vs, v = .ref a ∧ H a = some (.ins (cSh K) dx [("own_style", sv), ("own_labels", .ref t)]) ∧ H t = some (.tup vs) ∧ LabsAt H vs ls ∧ StAt K H sv x st
theorem ShAt.same {H H' : Hp} {v sv : V} {x : Str} {st : RSt} {ls : List Lab} (h : ShAt K H v sv x st ls) (s : Same H H') : ShAt K H' v sv x st ls := by
  obtain ⟨a, dx, t, vs, e, h1, h2, h3, h4⟩ := h
  exact ⟨a, dx, t, vs, e, s _ _ h1, s _ _ h2, h3.same s, SAt.same s h4⟩
def inOrd (st : RSt) (ls : List Lab) : Prop := ls.Pairwise (fun a b => ltK (okeyOf st a) (okeyOf st b) = true)
def spChk (K : PySem.W.Frag) : Sp := sp2 fun s l H Q E => ∃ x st t0 vs ls, StAt K H s x st ∧ l = .ref t0 ∧ H t0 = some (.tup vs) ∧ LabsAt H vs ls ∧ (∀ a ∈ ls, a.name.length ≤ 1000) ∧ ls.length ≤ 1000 ∧ (30 < ls.length → Rz H E (He.ga K "BadLabels") (.int 0)) ∧ (ls.length ≤ 30 →
  (goodTo st ls ls.length → ∀ H' t vs' ls', Same H H' → H' t = some (.tup vs') → LabsAt H' vs' ls' → ls'.Perm ls → inOrd st ls' → Q (.ref t) H') ∧
  (∀ i a, goodTo st ls i → ls[i]? = some a → canOf st (ls.take i) a = false → Rz H E (He.ga K "BadLabels") (.int (i + 1))))
abbrev n_checked_labels : List Str := ["style", "labels", "number"]
theorem sc_checked_labels : FnScope n_checked_labels ["style", "labels"] (defScope d_checked_labels) := ⟨rfl, rfl, rfl, by decide +kernel, rfl, by decide +kernel, by decide +kernel⟩
theorem ok_checked_labels (T : Top w K mg) : Has prg w K mg base (L2.CX prg w) 7 (He.ga K "checked_labels") ["style", "labels"] (spChk K) := by
  obtain ⟨fd, F⟩ := T.F_checked_labels
  obtain ⟨fd_is_tuple, G_is_tuple, b_is_tuple, k_is_tuple⟩ := ok_is_tuple (base := base) T
  obtain ⟨fd_first_bad, G_first_bad, b_first_bad, k_first_bad⟩ := ok_first_bad (base := base) T
  obtain ⟨fd_in_order, G_in_order, b_in_order, k_in_order⟩ := ok_in_order (base := base) T
  refine ⟨fd, F.ok (k := 6) sc_checked_labels (fun _ _ _ _ h => sp2_len h) (fun cdv A outer s H vs Q E hr h => ?_), F.bindsN (fun _ _ _ _ _ _ us hl => match us, hl with | [_, _], _ => rfl), F.kp⟩
  obtain ⟨v0, v1, rfl, h⟩ := h
  refine ⟨_, (pss_cons (ps_if (pt_not (pt_val (pe_call G_is_tuple (hr.mono (by decide)) (by rfl) T.g_is_tuple k_is_tuple b_is_tuple .nil pass0 (pa_cons (pv 1) (pa_cons pe_int (pa_cons (pe_cI (by rfl) T.c_MOST_LABELS) pa_nil)))))) (pss_one (ps_raiseE T.ini T.b_super T.er_BadLabels (hr.mono (by decide)) (by rfl) T.g_BadLabels (by rfl) (takes_of rfl rfl rfl rfl) pe_int)) pss_nil)
    (pss_cons (ps_set (i := 2) sc_checked_labels.nd rfl (Or.inl rfl) (pe_call G_first_bad (hr.mono (by decide)) (by rfl) T.g_first_bad k_first_bad b_first_bad .nil pass0 (pa_cons (pv 0) (pa_cons (pv 1) pa_nil))))
    (pss_cons (ps_if (pt_cmpR op_gt (pv 2) pe_int (nomark _)) (pss_one (ps_raiseE T.ini T.b_super T.er_BadLabels (hr.mono (by decide)) (by rfl) T.g_BadLabels (by rfl) (takes_of rfl rfl rfl rfl) (pv 2))) pss_nil)
    (pss_one (ps_ret (pe_call G_in_order (hr.mono (by decide)) (by rfl) T.g_in_order k_in_order b_in_order .nil pass0 (pa_cons (pv 0) (pa_cons (pv 1) pa_nil)))))))), ?_⟩
  obtain ⟨x, st, t0, vs, ls, S, rfl, h0, hL, hn, hl3, qm, q01⟩ := h
  have hlen := labs_len hL
  refine ⟨_, rfl, _, _, _, rfl, 0, 30, rfl, rfl, .inl ⟨t0, _, rfl, h0, _, rfl, ?_⟩⟩
  by_cases hl : ls.length ≤ 30
  case neg =>
    rw [decide_eq_true (show (0 : Int) ≤ (vs.length : Nat) by omega), decide_eq_false (show ¬ ((vs.length : Nat) : Int) ≤ 30 by omega)]
    exact Rz.fin T.er_BadLabels (qm (by omega))
  obtain ⟨q0, q1⟩ := q01 hl
  rw [decide_eq_true (show (0 : Int) ≤ (vs.length : Nat) by omega), decide_eq_true (show ((vs.length : Nat) : Int) ≤ 30 by omega)]
  refine ⟨_, rfl, _, rfl, _, _, rfl, x, st, t0, vs, ls, S, rfl, h0, hL, hn, by omega, fun g H1 s1 => ?_, fun i a g ha hc H1 s1 => ?_⟩
  · refine ⟨_, rfl, _, _, rfl, rfl, _, rfl, ?_⟩
    rw [decide_eq_false (show ¬ (0 : Int) < 0 by decide)]
    have gk : ∀ a ∈ ls, a.kind ∈ names st := fun a ha => goodTo_kind g a (by rw [List.take_length]; exact ha)
    exact ⟨_, rfl, _, rfl, _, _, rfl, x, st, t0, vs, ls, SAt.same s1 S, rfl, s1 _ _ h0, hL.same s1, gk, goodTo_nd g, hl, fun H2 t vs2 ls2 s2 ht hL2 pm pw => q0 g H2 t vs2 ls2 (s1.trans s2) ht hL2 pm pw⟩
  · refine ⟨_, rfl, _, _, rfl, rfl, _, rfl, ?_⟩
    rw [decide_eq_true (show (0 : Int) < (i : Int) + 1 by omega)]
    exact ⟨_, rfl, Rz.fin T.er_BadLabels ((q1 i a g ha hc).from s1)⟩
def spSheetInit (K : PySem.W.Frag) : Sp := sp3 fun self sv l H Q E => ∃ s dx x st t0 vs ls H0, self = .ref s ∧ H s = some (.ins (cSh K) dx []) ∧ H0 s = none ∧ Same H0 H ∧ StAt K H0 sv x st ∧ l = .ref t0 ∧ H0 t0 = some (.tup vs) ∧ LabsAt H0 vs ls ∧
  (∀ a ∈ ls, a.name.length ≤ 1000) ∧ ls.length ≤ 1000 ∧ (30 < ls.length → Rz H0 E (He.ga K "BadLabels") (.int 0)) ∧ (ls.length ≤ 30 → (goodTo st ls ls.length → ∀ H' ls', Same H0 H' → ShAt K H' (.ref s) sv x st ls' → ls'.Perm ls → inOrd st ls' → Q .non H') ∧
  (∀ i a, goodTo st ls i → ls[i]? = some a → canOf st (ls.take i) a = false → Rz H0 E (He.ga K "BadLabels") (.int (i + 1))))
abbrev n_Sheet_init : List Str := ["self", "style", "labels"]
theorem sc_Sheet_init : FnScope n_Sheet_init ["self", "style", "labels"] (defScope d_Sheet_init) := ⟨rfl, rfl, rfl, by decide +kernel, rfl, by decide +kernel, by decide +kernel⟩
theorem ok_Sheet_init (T : Top w K mg) : Has prg w K mg base (L2.CX prg w) 8 (He.ma K (He.ga K "Sheet") "__init__") ["self", "style", "labels"] (spSheetInit K) := by
  obtain ⟨fd, F⟩ := T.F_Sheet_init
  obtain ⟨fd_checked_labels, G_checked_labels, b_checked_labels, k_checked_labels⟩ := ok_checked_labels (base := base) T
  refine ⟨fd, F.ok (k := 7) sc_Sheet_init (fun _ _ _ _ h => sp3_len h) (fun cdv A outer s H vs Q E hr h => ?_), F.bindsN (fun _ _ _ _ _ _ us hl => match us, hl with | [_, _, _], _ => rfl), F.kp⟩
  obtain ⟨v0, v1, v2, rfl, h⟩ := h
  refine ⟨_, (pss_cons (ps_fld (pv 0) (pv 1) rfl)
    (pss_one (ps_fld (pv 0) (pe_call G_checked_labels (hr.mono (by decide)) (by rfl) T.g_checked_labels k_checked_labels b_checked_labels .nil (passes_call (takes_of rfl rfl rfl rfl) (fun _ _ _ _ h => h)) (pa_cons (pv 1) (pa_cons (pv 2) pa_nil))) rfl))), ?_⟩
  obtain ⟨s0, dx, x, st, t0, vs, ls, H0, rfl, hs0, hfree, sm, S0, rfl, h0, hL, hn, hl, qm, q01⟩ := h
  have up : ∀ {G : Hp} {o : HO}, Same H0 G → Same H0 (upd G s0 o) := fun {G o} h b u hb => by
    rw [upd_ne (fun e => by rw [e, hfree] at hb; cases hb)]
    exact h _ _ hb
  refine ⟨_, rfl, _, rfl, s0, _, dx, _, rfl, hs0, T.cl_Sheet, T.na_Sheet_own_style, by decide, ?_⟩
  have sm1 := up (o := .ins (cSh K) dx (putF "own_style" v1 [])) sm
  have hs1 : upd H s0 (.ins (cSh K) dx (putF "own_style" v1 [])) s0 = some (.ins (cSh K) dx [("own_style", v1)]) := upd_same
  generalize upd H s0 (.ins (cSh K) dx (putF "own_style" v1 [])) = H1 at sm1 hs1 ⊢
  refine ⟨_, rfl, _, rfl, _, _, rfl, x, st, t0, vs, ls, SAt.same sm1 S0, rfl, sm1 _ _ h0, hL.same sm1, hn, hl, fun h30 => (qm h30).from sm1, fun hl30 => ⟨fun g H2 t vs2 ls2 s2 ht hL2 pm pw => ?_, fun i a g ha hc => ((q01 hl30).2 i a g ha hc).from sm1⟩⟩
  refine ⟨_, rfl, s0, _, dx, _, rfl, s2 _ _ hs1, T.cl_Sheet, T.na_Sheet_own_labels, by show 1 < 1000; decide, ?_⟩
  have sm2 := up (o := .ins (cSh K) dx (putF "own_labels" (.ref t) [("own_style", v1)])) (sm1.trans s2)
  have keep : ∀ b u, b ≠ s0 → H2 b = some u → upd H2 s0 (.ins (cSh K) dx (putF "own_labels" (.ref t) [("own_style", v1)])) b = some u := fun b u hb e => by rw [upd_ne hb]; exact e
  refine (q01 hl30).1 g _ ls2 sm2 ⟨s0, dx, t, vs2, rfl, by rw [upd_same]; rfl, keep _ _ (fun e => ?_) ht, ?_, SAt.same sm2 S0⟩ pm pw
  · rw [e, s2 _ _ hs1] at ht
    cases ht
  · refine Paired.mapP hL2 fun v a h => ?_
    obtain ⟨ta, e, hta⟩ := h
    refine ⟨ta, e, keep _ _ (fun z => ?_) hta⟩
    rw [z, s2 _ _ hs1] at hta
    cases hta
end
end SK
set_option maxHeartbeats 4000000
namespace SL
open PySem PySem.Spec PyProof.Rows L2
def showOf (st : RSt) (n : Int) (fs : List Lab) (a : Lab) : Bool := (boxOf st n a).isSome && !(fs.any fun b => clashOf st n a b)
def lookOf (st : RSt) (n : Int) (fs : List Lab) : List Lab → List Lab
  | [] => fs
  | a :: r => lookOf st n (if showOf st n fs a = true then fs ++ [a] else fs) r
theorem labs_app {H : Hp} : ∀ {vs us : List V} {ls ms : List Lab}, LabsAt H vs ls → LabsAt H us ms → LabsAt H (vs ++ us) (ls ++ ms)
  | _, _, _, _, .nil, h => h
  | _, _, _, _, .cons a r, h => .cons a (labs_app r h)
end SL
namespace SK
open PySem PySem.Spec PyProof.Rows L2 SL
section
variable {w : World} {K : PySem.W.Frag} {mg : Str → Option Value} {base : Heap}
end
end SK
set_option maxHeartbeats 4000000
namespace SL
open PySem PySem.Spec PyProof.Rows L2
def labD (l : Lab) : PyData := .tuple [.str l.name, .str l.kind, .int l.letters, .int l.weight, .int l.x, .int l.y]
theorem LabAt.dp {K : PySem.W.Frag} {H : Hp} {v : V} {l : Lab} (h : LabAt H v l) : Dp K H v (labD l) := by
  obtain ⟨t, rfl, h⟩ := h
  exact .tup (SqT.of h) (.cons (.str _) (.cons (.str _) (.cons (.int _) (.cons (.int _) (.cons (.int _) (.cons (.int _) .nil))))))
theorem LabsAt.dp {K : PySem.W.Frag} {H : Hp} : ∀ {vs : List V} {ls : List Lab}, LabsAt H vs ls → DpAll K H vs (ls.map labD)
  | _, _, .nil => .nil
  | _, _, .cons h r => .cons (LabAt.dp h) (LabsAt.dp r)
def Nl (H H' : Hp) : Prop := ∀ b o, (∀ xs, o ≠ .lst xs) → H b = some o → H' b = some o
theorem Nl.of {H H' : Hp} (s : Same H H') : Nl H H' := fun b o _ h => s b o h
theorem Nl.kp {H H' : Hp} {D : Addr} {us : List V} (k : Kp D H H') (hD : H D = some (.lst us)) : Nl H H' := fun b o n h => k b o (fun e => by
  rw [e, hD] at h
  exact n us (Option.some.inj h).symm) h
theorem Nl.trans {H H1 H2 : Hp} (a : Nl H H1) (b : Nl H1 H2) : Nl H H2 := fun c o n h => b c o n (a c o n h)
theorem Nl.ins {H H' : Hp} (n : Nl H H') {a C dx : Addr} {fs : List (Str × V)} (h : H a = some (.ins C dx fs)) : H' a = some (.ins C dx fs) := n _ _ (fun _ e => nomatch e) h
theorem Nl.tup {H H' : Hp} (n : Nl H H') {a : Addr} {xs : List V} (h : H a = some (.tup xs)) : H' a = some (.tup xs) := n _ _ (fun _ e => nomatch e) h
theorem SAt.nl {CS CW : Addr} {H H' : Hp} {v : V} {x : Str} {st : RSt} (s : Nl H H') (h : SAt CS CW H v x st) : SAt CS CW H' v x st := by
  obtain ⟨⟨s0, dx, a1, a2, a3, a4, vs, kvs, ws, e, h1, h2, h3, h4, h5, h6, h7, h8⟩, wf, le⟩ := h
  exact ⟨⟨s0, dx, a1, a2, a3, a4, vs, kvs, ws, e, s.ins h1, s.tup h2, Paired.mono (fun _ _ ⟨c, dx, t1, t2, e, g1, g2, g3⟩ => ⟨c, dx, t1, t2, e, s.ins g1, s.tup g2, s.tup g3⟩) h3, s _ _ (fun _ e => nomatch e) h4, h5, s.tup h6, h7.tk (fun b xs hb => s.tup hb) (pairD_fz _), s _ _ (fun _ e => nomatch e) h8⟩, wf, le⟩
theorem LabAt.nl {H H' : Hp} {v : V} {l : Lab} (h : LabAt H v l) (s : Nl H H') : LabAt H' v l := by
  obtain ⟨t, e, h⟩ := h
  exact ⟨t, e, s.tup h⟩
theorem LabsAt.nl {H H' : Hp} (s : Nl H H') {vs : List V} {ls : List Lab} (h : LabsAt H vs ls) : LabsAt H' vs ls := Paired.mono (fun _ _ x => LabAt.nl x s) h
end SL
namespace SK
open PySem PySem.Spec PyProof.Rows L2 SL
section
variable {w : World} {K : PySem.W.Frag} {mg : Str → Option Value} {base : Heap}
theorem VwAt.nl {H H' : Hp} {v sv : V} {x : Str} {st : RSt} {n : Int} (h : VwAt K H v sv x st n) (s : Nl H H') : VwAt K H' v sv x st n := by
  obtain ⟨a, dx, t, e, h1, h2, h3⟩ := h
  exact ⟨a, dx, t, e, s.ins h1, s.tup h2, SAt.nl s h3⟩
theorem ShAt.nl {H H' : Hp} {v sv : V} {x : Str} {st : RSt} {ls : List Lab} (h : ShAt K H v sv x st ls) (s : Nl H H') : ShAt K H' v sv x st ls := by
  obtain ⟨a, dx, t, vs, e, h1, h2, h3, h4⟩ := h
  exact ⟨a, dx, t, vs, e, s.ins h1, s.tup h2, LabsAt.nl s h3, SAt.nl s h4⟩
structure VanS (H G : Hp) (D : Addr) (ks : List (Addr × List Key)) : Prop where
  sm : Same H G
  ls : G D = some (.lst (ks.map fun p => V.ref p.1))
  tp : ∀ p ∈ ks, G p.1 = some (.tup (p.2.map kV))
theorem VanS.same {H G G' : Hp} {D : Addr} {ks : List (Addr × List Key)} (v : VanS H G D ks) (s : Same G G') : VanS H G' D ks := ⟨v.sm.trans s, s _ _ v.ls, fun p hp => s _ _ (v.tp p hp)⟩
end
end SK
set_option maxHeartbeats 4000000
namespace SL
open PySem PySem.Spec PyProof.Rows L2
def spPairL : Sp := sp2 fun a b H Q _ => ∃ i j : Nat, a = .int i ∧ b = .int j ∧ ∀ H' t, Same H H' → H' t = some (.tup [.int (rankP i j).1, .int (rankP i j).2]) → Q (.ref t) H'
end SL
namespace SK
open PySem PySem.Spec PyProof.Rows L2 SL
section
variable {w : World} {K : PySem.W.Frag} {mg : Str → Option Value} {base : Heap}
abbrev n_law_pair : List Str := ["_law_i", "_law_j"]
theorem sc_law_pair : FnScope n_law_pair ["_law_i", "_law_j"] (defScope d_law_pair) := ⟨rfl, rfl, rfl, by decide +kernel, rfl, by decide +kernel, by decide +kernel⟩
theorem ok_law_pair (T : Top w K mg) : Has prg w K mg base CX0 1 (He.ga K "_law_pair") ["_law_i", "_law_j"] spPairL := by
  obtain ⟨fd, F⟩ := T.F_law_pair
  refine ⟨fd, F.ok (k := 0) sc_law_pair (fun _ _ _ _ h => sp2_len h) (fun cdv A outer s H vs Q E hr h => ?_), F.bindsN (fun _ _ _ _ _ _ us hl => match us, hl with | [_, _], _ => rfl), F.kp⟩
  obtain ⟨v0, v1, rfl, h⟩ := h
  refine ⟨_, PSs.nox (pss_one (ps_ret (pe_ifExp (pt_cmpR op_le (pv 0) (pv 1) (nomark _)) (pe_tup (pa_cons (pv 0) (pa_cons (pv 1) pa_nil))) (pe_tup (pa_cons (pv 1) (pa_cons (pv 0) pa_nil)))))), ?_⟩
  obtain ⟨i, j, rfl, rfl, q⟩ := h
  refine ⟨_, rfl, _, rfl, _, _, rfl, rfl, _, rfl, ?_⟩
  by_cases hle : i ≤ j
  · rw [decide_eq_true (show (i : Int) ≤ j by omega)]
    refine ⟨_, rfl, _, rfl, (by show 2 ≤ sizeLine; decide), fun t ht => q _ t (same_new ht) ?_⟩
    rw [upd_same, show rankP i j = (i, j) from if_pos hle]
  · rw [decide_eq_false (show ¬ (i : Int) ≤ j by omega)]
    refine ⟨_, rfl, _, rfl, (by show 2 ≤ sizeLine; decide), fun t ht => q _ t (same_new ht) ?_⟩
    rw [upd_same, show rankP i j = (j, i) from if_neg hle]
end
end SK
set_option maxHeartbeats 4000000
namespace SL
open PySem PySem.Spec PyProof.Rows L2
abbrev stL (lo : Lore) : RSt := ⟨"", lo.zooms - 1, lo.rows, lo.beside, lo.far⟩
theorem size_pos {r : SL.Row} {n z : Int} (h : rowOk r z = true) : (0 < sizeAt r n ↔ isThere r n = true) ∧ 0 ≤ sizeAt r n ∧ sizeAt r n ≤ 9 := by
  have hs := (rowOk_iff.mp h).2.2.1
  by_cases ht : isThere r n = true
  · have := sizes_rng hs (size_at ht).2.2
    exact ⟨⟨fun _ => ht, fun _ => by omega⟩, by omega, by omega⟩
  · have e : sizeAt r n = 0 := by
      unfold sizeAt
      by_cases h0 : 0 ≤ n - r.first
      · rw [if_pos h0, List.getElem?_eq_none]
        · rfl
        · refine Nat.le_of_not_lt fun hl => ht ?_
          unfold isThere
          rw [decide_eq_true (show r.first ≤ n by omega), decide_eq_true (show n < r.first + r.sizes.length by omega)]
          rfl
      · rw [if_neg h0]
    rw [e]
    exact ⟨⟨fun z => absurd z (by decide), fun z => absurd z ht⟩, by decide, by decide⟩
theorem eqV_str {x y : Str} : eqV (V.str x) (V.str y) = true ↔ x = y := by
  unfold eqV
  simp
theorem idx_nd_le : ∀ {l : List Str} {m : Nat} {z : Str}, l[m]? = some z → l.idxOf z ≤ m
  | [], _, _, h => by simp at h
  | a :: l, 0, z, h => by
    simp only [List.getElem?_cons_zero, Option.some.injEq] at h
    subst h
    simp
  | a :: l, m + 1, z, h => by
    by_cases e : a = z
    · subst e
      simp
    · have := idx_nd_le (l := l) (m := m) (z := z) (by simpa using h)
      rw [List.idxOf_cons, show (a == z) = false from beq_eq_false_iff_ne.mpr e]
      exact Nat.succ_le_succ this
structure LabL (lo : Lore) (l : Lab) : Prop where
  kd : l.kind ∈ names (stL lo)
  l0 : 0 ≤ l.letters
  l1 : l.letters ≤ 100
theorem LabL.at {lo : Lore} {l : Lab} (h : LabL lo l) (ok : LoreOk lo) {n : Int} (h0 : 0 ≤ n) : LabIn (stL lo) n l := by
  have := ok.z5
  exact ⟨h.kd, h.l0, h.l1, fun r hr => (size_pos (ok.rows.ok r hr)).2, by show lo.zooms - 1 - n ≤ 10; omega⟩
theorem LabL.row {lo : Lore} {l : Lab} (h : LabL lo l) : ∃ r, lo.rows[rkOf (stL lo) l]? = some r ∧ rowAt (stL lo) l = some r ∧ r ∈ lo.rows := by
  have hlt : rkOf (stL lo) l < lo.rows.length := by
    have := List.idxOf_lt_length_of_mem h.kd
    unfold names at this
    rw [List.length_map] at this
    exact this
  exact ⟨_, List.getElem?_eq_getElem hlt, List.getElem?_eq_getElem hlt, List.getElem_mem hlt⟩
def spRankL : Sp := sp2 fun a b H Q _ => ∃ lo lab, LoreAt H a lo ∧ lo.rows.length ≤ 1000 ∧ LabAt H b lab ∧ lab.kind ∈ names (stL lo) ∧ ∀ H', Same H H' → Q (.int (rkOf (stL lo) lab : Nat)) H'
def spBoxL : Sp := sp3 fun a b c H Q _ => ∃ (lo : Lore) (lab : Lab) (n : Int), LoreAt H a lo ∧ LoreOk lo ∧ LabAt H b lab ∧ LabL lo lab ∧ c = .int n ∧ 0 ≤ n ∧ n < lo.zooms ∧ ∀ H' v, Same H H' → BxAt H' v (boxOf (stL lo) n lab) → Q v H'
def spApartL : Sp := sp2 fun a b H Q _ => ∃ la lb, LabAt H a la ∧ LabAt H b lb ∧ ∀ H' t, Same H H' → H' t = some (.tup [.int (absI (la.x - lb.x)), .int (absI (la.y - lb.y))]) → Q (.ref t) H'
end SL
namespace SK
open PySem PySem.Spec PyProof.Rows L2 SL
section
variable {w : World} {K : PySem.W.Frag} {mg : Str → Option Value} {base : Heap}
abbrev n_law_rank : List Str := ["_law_lore_here", "_law_label", "_law_one"]
theorem sc_law_rank : FnScope n_law_rank ["_law_lore_here", "_law_label"] (defScope d_law_rank) := ⟨rfl, rfl, rfl, by decide +kernel, rfl, by decide +kernel, by decide +kernel⟩
theorem ok_law_rank (T : Top w K mg) : Has prg w K mg base CX0 1 (He.ga K "_law_rank") ["_law_lore_here", "_law_label"] spRankL := by
  obtain ⟨fd, F⟩ := T.F_law_rank
  refine ⟨fd, F.ok (k := 0) sc_law_rank (fun _ _ _ _ h => sp2_len h) (fun cdv A outer s H vs Q E hr h => ?_), F.bindsN (fun _ _ _ _ _ _ us hl => match us, hl with | [_, _], _ => rfl), F.kp⟩
  obtain ⟨v0, v1, rfl, h⟩ := h
  refine ⟨_, PSs.nox (pss_one (ps_ret (pe_bm PySem.F.plainAttrs_list PySem.F.slot_list_index PySem.F.type_list_index mt_index (pe_lc (own := [("_law_one", 2)]) (g := gName 2) (by rfl) sc_law_rank.nd (pi_list (pe_dget (hu_of hr) (pv 0) pe_str (fun _ _ => rfl))) (blkOk_by (N := n_law_rank) (sc := defScope d_law_rank) (own := [("_law_one", 2)]) (by decide +kernel)) (fun _ _ _ _ _ => (pg_name (i := 2) sc_law_rank.nd rfl (Or.inl rfl) (.inr rfl))) (fun _ _ _ _ _ => pts_nil) (fun _ _ _ _ _ => (pe_ix (ix_tupK (K := K) rfl) (pv 2) pe_int (fun _ _ => rfl)))) (pa_cons (pe_ix ix_tup (pv 1) pe_int (fun _ _ => rfl)) pa_nil)))), ?_⟩
  obtain ⟨lo, lab, LA, hr4, ⟨tl, rfl, hl⟩, hk, q⟩ := h
  obtain ⟨d, B, F', L, rfl, h1, h2, h3, ⟨cvs, hL, rvL⟩⟩ := id LA
  refine ⟨_, rfl, d, _, rfl, lg_classes h1, L, rfl, ⟨_, SqL.of hL⟩, fun D hD => ?_⟩
  refine lc_names hD hL rvL (by omega) (fun t r u H2 Ky Kn s2 ht ky => ⟨rfl, _, rfl, t, _, _, _, rfl, rfl, SqT.of ht, rfl, ky⟩) (fun H1 s1 hD1 => ?_)
  have hlt := List.idxOf_lt_length_of_mem hk
  have hD1 : H1 D = some (.lst ((names (stL lo)).map V.str)) := hD1
  refine ⟨.inl ⟨rfl, _, SqL.of hD1⟩, _, rfl, tl, _, _, _, rfl, rfl, SqT.of (s1 _ _ hl), atI_nat (j := 1) rfl, D, _, _, rkOf (stL lo) lab, .str lab.kind, rfl, rfl, SqL.of hD1, rfl, flat_strs _, ?_, eqV_str.mpr rfl, fun m z hm hz => ?_, q H1 s1⟩
  · show ((names (stL lo)).map V.str)[(names (stL lo)).idxOf lab.kind]? = _
    rw [List.getElem?_map, List.getElem?_eq_getElem hlt]
    exact congrArg (fun z => some (V.str z)) (List.getElem_idxOf hlt)
  · rw [List.getElem?_map] at hz
    obtain ⟨y, hy, rfl⟩ := Option.map_eq_some_iff.mp hz
    cases he : eqV (V.str y) (V.str lab.kind) with
    | false => rfl
    | true =>
      have e := eqV_str.mp he
      subst e
      have h1 := idx_nd_le (l := names (stL lo)) hy
      have : rkOf (stL lo) lab = (names (stL lo)).idxOf lab.kind := rfl
      omega
abbrev n_law_box : List Str := ["_law_lore_here", "_law_label", "_law_zoom", "_law_i"]
theorem sc_law_box : FnScope n_law_box ["_law_lore_here", "_law_label", "_law_zoom"] (defScope d_law_box) := ⟨rfl, rfl, rfl, by decide +kernel, rfl, by decide +kernel, by decide +kernel⟩
theorem ok_law_box (T : Top w K mg) : Has prg w K mg base CX0 3 (He.ga K "_law_box") ["_law_lore_here", "_law_label", "_law_zoom"] spBoxL := by
  obtain ⟨fd, F⟩ := T.F_law_box
  obtain ⟨fd_law_rank, G_law_rank, b_law_rank, k_law_rank⟩ := ok_law_rank (base := base) T
  obtain ⟨fd_law_is_there, G_law_is_there, b_law_is_there, k_law_is_there⟩ := ok_law_is_there (base := base) T
  obtain ⟨fd_law_half, G_law_half, b_law_half, k_law_half⟩ := ok_law_half (base := base) T
  refine ⟨fd, F.ok (k := 2) sc_law_box (fun _ _ _ _ h => sp3_len h) (fun cdv A outer s H vs Q E hr h => ?_), F.bindsN (fun _ _ _ _ _ _ us hl => match us, hl with | [_, _, _], _ => rfl), F.kp⟩
  obtain ⟨v0, v1, v2, rfl, h⟩ := h
  refine ⟨_, PSs.nox (pss_cons (ps_set (i := 3) sc_law_box.nd rfl (Or.inl rfl) (pe_call G_law_rank (hr.mono (by decide)) (by rfl) T.g_law_rank k_law_rank b_law_rank .nil pass0 (pa_cons (pv 0) (pa_cons (pv 1) pa_nil))))
    (pss_cons (ps_if (pt_not (pt_val (pe_call G_law_is_there (hr.mono (by decide)) (by rfl) T.g_law_is_there k_law_is_there b_law_is_there .nil pass0 (pa_cons (pe_ix ix_list (pe_dget (hu_of hr) (pv 0) pe_str (fun _ _ => rfl)) (pv 3) (fun _ _ => rfl)) (pa_cons (pv 2) pa_nil))))) (pss_one (ps_ret pe_non)) pss_nil)
    (pss_one (ps_ret (pe_tup (pa_cons (pe_call G_law_half (hr.mono (by decide)) (by rfl) T.g_law_half k_law_half b_law_half .nil pass0 (pa_cons (pv 0) (pa_cons (pv 3) (pa_cons (pe_ix ix_tup (pv 1) pe_int (fun _ _ => rfl)) (pa_cons (pv 2) pa_nil))))) (pa_cons (pe_call G_law_half (hr.mono (by decide)) (by rfl) T.g_law_half k_law_half b_law_half .nil pass0 (pa_cons (pv 0) (pa_cons (pv 3) (pa_cons pe_int (pa_cons (pv 2) pa_nil))))) pa_nil))))))), ?_⟩
  obtain ⟨lo, lab, n, LA, ok, L0, ll, rfl, hn0, hn1, q⟩ := h
  obtain ⟨tl, rfl, hl⟩ := id L0
  have hr4 := ok.r4
  obtain ⟨r, hr, hra, hrm⟩ := ll.row
  have hro := ok.rows.ok r hrm
  have hsz := (rowOk_iff.mp hro).2.2.1
  refine ⟨_, rfl, _, rfl, _, _, rfl, lo, lab, LA, by omega, L0, ll.kd, fun H1 s1 => ?_⟩
  have LA1 := LA.same s1
  obtain ⟨d, B, F', L, rfl, h1, h2, h3, h4⟩ := id LA1
  obtain ⟨vs, v, hL, hv, rv⟩ := h4.get hr
  refine ⟨_, rfl, d, _, rfl, lg_classes h1, _, rfl, L, _, _, _, rfl, rfl, SqL.of hL, atI_nat hv, _, rfl, _, _, rfl, r, n, rv, rfl, _, rfl, ?_⟩
  have hb : boxOf (stL lo) n lab = if 0 < sizeAt r n then some (lab.letters * (sizeAt r n * 2 ^ (lo.zooms - 1 - n).toNat), sizeAt r n * 2 ^ (lo.zooms - 1 - n).toNat) else none := by
    unfold boxOf
    rw [hra]
    rfl
  cases hth : isThere r n with
  | false =>
    rw [if_neg (fun z => by rw [(size_pos hro).1, hth] at z; cases z)] at hb
    exact q H1 .non s1 (by rw [hb]; rfl)
  | true =>
    rw [if_pos ((size_pos hro).1.mpr hth)] at hb
    refine ⟨_, rfl, _, rfl, _, rfl, tl, _, _, _, rfl, rfl, SqT.of (s1 _ _ hl), atI_nat (j := 2) rfl, _, rfl, _, _, _, _, rfl, lo, rkOf (stL lo) lab, r, lab.letters, n, LA1, ok.z5, rfl, hr, rfl, ll.l0, ll.l1, rfl, hn0, hn1, hth, hsz, fun H2 s2 => ?_⟩
    refine ⟨_, rfl, _, rfl, _, rfl, _, _, _, _, rfl, lo, rkOf (stL lo) lab, r, 1, n, LA1.same s2, ok.z5, rfl, hr, rfl, by decide, by decide, rfl, hn0, hn1, hth, hsz, fun H3 s3 => ⟨(by show 2 ≤ sizeLine; decide), fun p hp => ?_⟩⟩
    refine q _ (.ref p) ((s1.trans (s2.trans s3)).trans (same_new hp)) ?_
    rw [hb]
    refine ⟨p, rfl, ?_⟩
    rw [upd_same]
    unfold boxV pix
    rw [Int.mul_assoc, Int.one_mul]
abbrev n_law_apart : List Str := ["_law_one", "_law_other"]
theorem sc_law_apart : FnScope n_law_apart ["_law_one", "_law_other"] (defScope d_law_apart) := ⟨rfl, rfl, rfl, by decide +kernel, rfl, by decide +kernel, by decide +kernel⟩
theorem ok_law_apart (T : Top w K mg) : Has prg w K mg base CX0 1 (He.ga K "_law_apart") ["_law_one", "_law_other"] spApartL := by
  obtain ⟨fd, F⟩ := T.F_law_apart
  refine ⟨fd, F.ok (k := 0) sc_law_apart (fun _ _ _ _ h => sp2_len h) (fun cdv A outer s H vs Q E hr h => ?_), F.bindsN (fun _ _ _ _ _ _ us hl => match us, hl with | [_, _], _ => rfl), F.kp⟩
  obtain ⟨v0, v1, rfl, h⟩ := h
  refine ⟨_, PSs.nox (pss_one (ps_ret (pe_tup (pa_cons (pe_callTy call_int1 (by rfl) T.b_int boot_int (pa_cons (pe_callB call_abs (by rfl) T.b_abs (by decide +kernel) (pa_cons (pe_op op_sub (pe_ix ix_tup (pv 0) pe_int (fun _ _ => rfl)) (pe_ix ix_tup (pv 1) pe_int (fun _ _ => rfl))) pa_nil)) pa_nil)) (pa_cons (pe_callTy call_int1 (by rfl) T.b_int boot_int (pa_cons (pe_callB call_abs (by rfl) T.b_abs (by decide +kernel) (pa_cons (pe_op op_sub (pe_ix ix_tup (pv 0) pe_int (fun _ _ => rfl)) (pe_ix ix_tup (pv 1) pe_int (fun _ _ => rfl))) pa_nil)) pa_nil)) pa_nil))))), ?_⟩
  obtain ⟨la, lb, ⟨ta, rfl, hta⟩, ⟨tb, rfl, htb⟩, q⟩ := h
  refine ⟨_, rfl, ta, _, _, _, rfl, rfl, SqT.of hta, atI_nat (j := 4) rfl, _, rfl, tb, _, _, _, rfl, rfl, SqT.of htb, atI_nat (j := 4) rfl, _, _, rfl, rfl, _, rfl, .inl ⟨_, rfl, ?_⟩⟩
  refine ⟨_, rfl, ta, _, _, _, rfl, rfl, SqT.of hta, atI_nat (j := 5) rfl, _, rfl, tb, _, _, _, rfl, rfl, SqT.of htb, atI_nat (j := 5) rfl, _, _, rfl, rfl, _, rfl, .inl ⟨_, rfl, (by show 2 ≤ sizeLine; decide), fun p hp => ?_⟩⟩
  exact q _ p (same_new hp) upd_same
end
end SK
set_option maxHeartbeats 4000000
namespace SL
open PySem PySem.Spec PyProof.Rows L2
end SL
namespace SK
open PySem PySem.Spec PyProof.Rows L2 SL
section
variable {w : World} {K : PySem.W.Frag} {mg : Str → Option Value} {base : Heap}
end
end SK
set_option maxHeartbeats 4000000
namespace SL
open PySem PySem.Spec PyProof.Rows L2
def txE (e : Int × Value) : Str := match e.2 with
  | .str x _ => x
  | _ => Str.empty
def TxOk (P : Program) (w : World) (e : Int × Value) : Prop := ∃ x tk, e.2 = Value.str x tk ∧ e.1 = (PySem.strKind P w).hash x
def SetT (P : Program) (w : World) (h : Heap) (a : Addr) (L : List Str) : Prop := ∃ o es ep t, h.get? a = some o ∧ o.ExactSet ∧ o.data = .set es ep t ∧ (∀ e ∈ es.toList, TxOk P w e) ∧ es.toList.map txE = L ∧ L.Nodup ∧
  L.length < scanBound ∧ t.fits es.size = true ∧ Ris t.place.toList ∧ (w.params.followText "set-order" = true ∨ t.led = true)
section
variable {P : Program} {w : World} {A : Around} {E : Value → Shared → Prop} {s : Shared} {a : Addr} {L : List Str}
theorem tx_elems {l : List (Int × Value)} (g : ∀ e ∈ l, TxOk P w e) : ElemsOf (PySem.strKind P w) l := fun e he => by
  obtain ⟨x, tk, e1, e2⟩ := g e he
  exact ⟨⟨x, by rw [e1]; exact strKind_is P w x tk, e2⟩, by rw [e1] <;> rfl⟩
theorem tx_is {e : Int × Value} (g : TxOk P w e) (x : Str) : (PySem.strKind P w).is x e.2 = true ↔ txE e = x := by
  obtain ⟨y, tk, e1, _⟩ := g
  unfold txE
  rw [e1]
  constructor
  · intro h
    obtain ⟨t, z⟩ := Value.isStrOf_shape (x := x) (v := .str y tk) h
    injection z
  · rintro rfl
    exact strKind_is P w _ _
theorem SetT.keep {h h' : Heap} (R : SetT P w h a L) (k : ∀ o, h.get? a = some o → h'.get? a = some o) : SetT P w h' a L := by
  obtain ⟨o, es, ep, t, ho, r⟩ := R
  exact ⟨o, es, ep, t, k o ho, r⟩
theorem SetT.tail {g : Bool → Sem Unit} (hg : ∀ (b : Bool) (u : Shared) (R : Unit → Shared → Prop), R () u → wpAny (model P w) A (g b) R E u) {o : Obj} {es es1 : Array (Int × Value)} {ep : Nat} {t t1 : SetTable} (ho : s.heap.get? a = some o) (hex : o.ExactSet) (hd : o.data = .set es ep t)
    (ok1 : ∀ e ∈ es1.toList, TxOk P w e) (nd1 : (es1.toList.map txE).Nodup) (few : es1.size < scanBound) (fit : t1.fits es1.size = true) (ris : Ris t1.place.toList) (led : w.params.followText "set-order" = true ∨ t1.led = true) {wd : Bool} {R : Option Bool → Shared → Prop}
    (q : ∀ h' L', Heap.SameBut a s.heap h' → SetT P w h' a L' → L'.Perm (es1.toList.map txE) → R (some true) { s with heap := h' }) :
    wpAny (model P w) A (do
        storeSet a es1 t1
        if (!wd && t1.tooFull) = true then do
            g (relayAll t1 es1 (SetTable.grown es1.size)).2.2
            storeSet a (relayAll t1 es1 (SetTable.grown es1.size)).1 (relayAll t1 es1 (SetTable.grown es1.size)).2.1
            pure (some true)
          else pure (some true)) R E s := by
  refine wpAny_bind (wpAny_storeSet_of ho hd ?_ (fits_of_scanBound few))
  have ho1 := store_at (es' := es1) (t' := t1) ho hd
  have sb := Heap.SameBut.update s.heap a (Obj.putSet es1 t1)
  have len1 : (es1.toList.map txE).length < scanBound := by rw [List.length_map, Array.length_toList]; exact few
  by_cases full : (!wd && t1.tooFull) = true
  · refine wp_if_pos full ?_
    have c1 := relayAll_perm t1 es1 (SetTable.grown es1.size)
    have c2 := relayAll_fits t1 es1 (SetTable.grown es1.size)
    have c3 := relayAll_ris t1 es1 (SetTable.grown es1.size)
    have c4 := relayAll_led t1 es1 (SetTable.grown es1.size)
    generalize relayAll t1 es1 (SetTable.grown es1.size) = Z at c1 c2 c3 c4 ⊢
    obtain ⟨es2, t2, b2⟩ := Z
    dsimp only at c1 c2 c3 c4 ⊢
    have len2 : es2.size = es1.size := by rw [← Array.length_toList, c1.length_eq, Array.length_toList]
    refine wpAny_bind (hg _ _ _ (wpAny_bind (wpAny_storeSet_of ho1 rfl ?_ (fits_of_scanBound (by rw [len2]; exact few)))))
    refine wpAny_pure (q _ (es2.toList.map txE) (sb.trans (Heap.SameBut.update _ a _)) ?_ (c1.map txE))
    exact ⟨_, es2, _, t2, store_at (es' := es2) (t' := t2) ho1 rfl, hex, rfl, fun e he => ok1 e (c1.mem_iff.mp he), rfl, (c1.map txE).nodup_iff.mpr nd1, by rw [(c1.map txE).length_eq]; exact len1, c2, c3, led.imp id fun z => by rw [c4]; exact z⟩
  · exact wp_if_neg full (wpAny_pure (q _ _ sb ⟨_, es1, _, t1, ho1, hex, rfl, ok1, rfl, nd1, len1, fit, ris, led⟩ (.refl _)))
theorem SetT.add {x : Str} {tk : Tok} {Q : Bool → Shared → Prop} (R : SetT P w s.heap a L) (room : L.length + 1 < scanBound)
    (q : ∀ b h' L', Heap.SameBut a s.heap h' → SetT P w h' a L' → (x ∈ L → L' = L) → (x ∉ L → L'.Perm (x :: L)) → Q b { s with heap := h' }) :
    wpAny (model P w) A (setAddHashed a (.str x tk) ((PySem.strKind P w).hash x)) Q E s := by
  obtain ⟨o, es, ep, t, ho, hex, hd, ok, eL, nd, few, fit, ris, led⟩ := id R
  have len : es.size = L.length := by rw [← eL, List.length_map, Array.length_toList]
  have key : (PySem.strKind P w).is x (.str x tk) = true := strKind_is P w x tk
  have scn : (Value.str x tk).scannable = true := rfl
  have els : ElemsOf (PySem.strKind P w) es.toList := tx_elems ok
  unfold setAddHashed setAddHashedIn
  refine wpAny_holding (wpAny_bind (wpAny_setState_of ho hd fit ?_))
  dsimp only
  rw [byScan_of scn (by rw [len]; exact few) els]
  simp only [↓reduceIte]
  unfold setAddByScan
  refine wpAny_bind (wpAny_bind (wpAny_rule (wpAny_bind (wpAny_setScan_of key ho hd fit els ?_))))
  cases hf : List.findIdx? (fun e => (PySem.strKind P w).is x e.2) es.toList with
  | some j =>
    dsimp only
    obtain ⟨hj, pj, _⟩ := List.findIdx?_eq_some_iff_getElem.mp hf
    have hx : x ∈ L := by
      rw [← eL]
      exact List.mem_map.mpr ⟨_, List.getElem_mem hj, (tx_is (ok _ (List.getElem_mem hj)) x).mp pj⟩
    exact wpAny_pure (wpAny_pure (q _ s.heap L (Heap.SameBut.refl a s.heap) R (fun _ => rfl) fun z => absurd hx z))
  | none =>
    dsimp only
    have hx : x ∉ L := fun z => by
      rw [← eL] at z
      obtain ⟨e, he, ee⟩ := List.mem_map.mp z
      have c := List.findIdx?_eq_none_iff.mp hf e he
      rw [(tx_is (ok e he) x).mpr ee] at c
      cases c
    have way : ∀ (b : Bool) {u : Shared} {R : Unit → Shared → Prop}, R () u → wpAny (model P w) A (match b with | true => rule "set.scan.the-table-gave-way" | false => pure ()) R E u := fun b u R r => by
      cases b
      · exact wpAny_pure r
      · exact wpAny_rule r
    have c1 := layNew_perm t es ((PySem.strKind P w).hash x) (.str x tk)
    have c2 := layNew_fits t es ((PySem.strKind P w).hash x) (.str x tk)
    have c3 := layNew_ris t es ((PySem.strKind P w).hash x) (.str x tk) ris
    have c4 := layNew_led t es ((PySem.strKind P w).hash x) (.str x tk)
    generalize layNew t es ((PySem.strKind P w).hash x) (.str x tk) = Z at c1 c2 c3 c4 ⊢
    obtain ⟨es1, t1, wd, gw⟩ := Z
    dsimp only at c1 c2 c3 c4 ⊢
    rw [Array.toList_push] at c1
    have p1 : es1.toList.Perm (((PySem.strKind P w).hash x, Value.str x tk) :: es.toList) := c1.trans (List.perm_append_singleton _ _)
    have p2 : (es1.toList.map txE).Perm (x :: L) := by
      rw [← eL]
      exact p1.map txE
    have ok1 : ∀ e ∈ es1.toList, TxOk P w e := fun e he => by
      rcases List.mem_cons.mp (p1.mem_iff.mp he) with z | z
      · rw [z]
        exact ⟨x, tk, rfl, rfl⟩
      · exact ok e z
    have nd1 : (es1.toList.map txE).Nodup := p2.nodup_iff.mpr (List.nodup_cons.mpr ⟨hx, nd⟩)
    have len1 : es1.size = L.length + 1 := by rw [← Array.length_toList, p1.length_eq, List.length_cons, Array.length_toList, len]
    have few1 : es1.size < scanBound := by rw [len1]; exact room
    have led1 : w.params.followText "set-order" = true ∨ t1.led = true := led.imp id fun z => by rw [c4]; exact z
    have fin : ∀ h' L', Heap.SameBut a s.heap h' → SetT P w h' a L' → L'.Perm (es1.toList.map txE) → Q true { s with heap := h' } := fun h' L' sb r pm => q true h' L' sb r (fun z => absurd z hx) fun _ => pm.trans p2
    refine wpAny_bind (way _ ?_)
    split
    · refine wpAny_bind ?_
      rw [hashByValue_scannable 8 scn]
      refine wpAny_pure ?_
      refine SetT.tail ?_ ho hex hd ok1 nd1 few1 ?_ ?_ ?_ ?_
      · intro b u R r
        cases b
        · exact wpAny_pure r
        · exact wpAny_rule r
      · first | exact c2 | (split <;> first | exact c2 | exact SetTable.fits_plain_off c2)
      · first | exact c3 | (split <;> exact c3)
      · first | exact led1 | (split <;> exact led1)
      · intro h' L' sb r pm
        exact wpAny_pure (fin h' L' sb r pm)
    · refine wpAny_bind (wpAny_pure ?_)
      simp only [↓reduceIte]
      refine SetT.tail ?_ ho hex hd ok1 nd1 few1 c2 c3 led1 ?_
      · intro b u R r
        cases b
        · exact wpAny_pure r
        · exact wpAny_rule r
      · intro h' L' sb r pm
        exact wpAny_pure (fin h' L' sb r pm)
theorem SetT.nil {h : Heap} (e : h.get? a = some (setNil w)) : SetT P w h a [] := by
  refine ⟨_, #[], 0, _, e, ⟨rfl, rfl, rfl⟩, rfl, fun x hx => absurd hx (by simp), rfl, List.nodup_nil, by unfold scanBound; decide, rfl, List.Pairwise.nil, ?_⟩
  cases hb : w.params.followText "set-order" with
  | true => exact .inl rfl
  | false => exact .inr rfl
end
end SL
set_option maxHeartbeats 4000000
namespace SL
open PySem PySem.Spec PyProof.Rows L2
structure TookT (xs : List Str) (i : Nat) (L : List Str) : Prop where
  of : ∀ y ∈ L, y ∈ xs.take i
  al : ∀ y ∈ xs.take i, y ∈ L
  le : L.length ≤ i
theorem TookT.start (xs : List Str) : TookT xs 0 [] := ⟨fun p h => absurd h (by simp), fun p h => absurd h (by simp), Nat.zero_le _⟩
theorem TookT.next {xs L L' : List Str} {i : Nat} {x : Str} (g : TookT xs i L) (h : xs[i]? = some x) (h1 : x ∈ L → L' = L) (h2 : x ∉ L → L'.Perm (x :: L)) : TookT xs (i + 1) L' := by
  have e : xs.take (i + 1) = xs.take i ++ [x] := by rw [List.take_succ, h]; rfl
  by_cases c : x ∈ L
  · rw [h1 c]
    refine ⟨fun r hr => ?_, fun r hr => ?_, Nat.le_succ_of_le g.le⟩
    · rw [e]
      exact List.mem_append_left _ (g.of r hr)
    · rw [e] at hr
      rcases List.mem_append.mp hr with hr | hr
      · exact g.al r hr
      · rw [List.mem_singleton.mp hr]
        exact c
  · have pm := h2 c
    refine ⟨fun r hr => ?_, fun r hr => ?_, ?_⟩
    · rw [e]
      rcases List.mem_cons.mp (pm.mem_iff.mp hr) with hr | hr
      · rw [hr]
        exact List.mem_append_right _ (by simp)
      · exact List.mem_append_left _ (g.of r hr)
    · rw [pm.mem_iff]
      rw [e] at hr
      rcases List.mem_append.mp hr with hr | hr
      · exact List.mem_cons_of_mem _ (g.al r hr)
      · rw [List.mem_singleton.mp hr]
        exact List.mem_cons_self
    · have := g.le
      rw [pm.length_eq, List.length_cons]
      omega
section
variable {P : Program} {w : World} {A : Around} {E : Value → Shared → Prop} {s : Shared} {a : Addr} {L : List Str}
end
section
variable {X : Cx}
end
end SL
set_option maxHeartbeats 4000000
namespace SL
open PySem PySem.Spec PyProof.Rows L2
end SL
namespace SK
open PySem PySem.Spec PyProof.Rows L2 SL
section
variable {w : World} {K : PySem.W.Frag} {mg : Str → Option Value} {base : Heap}
end
end SK
set_option maxHeartbeats 4000000
namespace SL
open PySem PySem.Spec PyProof.Rows L2
theorem blkOk_in {N : List Str} {sc sc' scope : Scope} {own : List (Str × Nat)} (e : sc' = sc) (h : blkC N sc scope own = true) : BlkOk N sc' scope own := by
  subst e
  exact blkOk_by h
def farV (l : List ((Nat × Nat) × Int)) (p : Nat × Nat) : List V := l.filterMap fun q => if decide (q.1 = p) = true then some (V.int q.2) else none
theorem farV_head (st : RSt) (p : Nat × Nat) : (farV st.far p ++ [V.int 0])[0]? = some (V.int (farOf st p)) := by
  unfold farV farOf
  induction st.far with
  | nil => rfl
  | cons q l ih =>
    rw [List.filterMap_cons]
    by_cases h : q.1 = p
    · rw [decide_eq_true h, List.find?_cons_of_pos (by simp [h])]
      rfl
    · rw [decide_eq_false h, List.find?_cons_of_neg (by simp [h])]
      exact ih
end SL
namespace SK
open PySem PySem.Spec PyProof.Rows L2 SL
section
variable {w : World} {K : PySem.W.Frag} {mg : Str → Option Value} {base : Heap}
end
end SK
set_option maxHeartbeats 4000000
namespace SL
open PySem PySem.Spec PyProof.Rows L2
theorem gap_max (a b : Lab) : (if absI (a.y - b.y) > absI (a.x - b.x) then absI (a.y - b.y) else absI (a.x - b.x)) = gapOf a b := by
  unfold gapOf
  split <;> split <;> omega
def spNearL : Sp := sp3 fun a b c H Q _ => ∃ (lo : Lore) (la lb : Lab), LoreAt H a lo ∧ LoreOk lo ∧ LabAt H b la ∧ LabAt H c lb ∧ la.kind ∈ names (stL lo) ∧ lb.kind ∈ names (stL lo) ∧ ∀ H', Same H H' → Q (.bl (decide (gapOf la lb < farOf (stL lo) (rankP (rkOf (stL lo) la) (rkOf (stL lo) lb))))) H'
end SL
namespace SK
open PySem PySem.Spec PyProof.Rows L2 SL
section
variable {w : World} {K : PySem.W.Frag} {mg : Str → Option Value} {base : Heap}
abbrev n_law_is_near : List Str := ["_law_lore_here", "_law_one", "_law_other", "_law_wanted", "_law_pair_here", "_law_gap", "_law_some", "_law_distance_here"]
theorem sc_law_is_near : FnScope n_law_is_near ["_law_lore_here", "_law_one", "_law_other"] (defScope d_law_is_near) := ⟨rfl, rfl, rfl, by decide +kernel, rfl, by decide +kernel, by decide +kernel⟩
theorem ok_law_is_near (T : Top w K mg) : Has prg w K mg base CX0 2 (He.ga K "_law_is_near") ["_law_lore_here", "_law_one", "_law_other"] spNearL := by
  obtain ⟨fd, F⟩ := T.F_law_is_near
  obtain ⟨fd_law_apart, G_law_apart, b_law_apart, k_law_apart⟩ := ok_law_apart (base := base) T
  obtain ⟨fd_law_pair, G_law_pair, b_law_pair, k_law_pair⟩ := ok_law_pair (base := base) T
  obtain ⟨fd_law_rank, G_law_rank, b_law_rank, k_law_rank⟩ := ok_law_rank (base := base) T
  refine ⟨fd, F.ok (k := 1) sc_law_is_near (fun _ _ _ _ h => sp3_len h) (fun cdv A outer s H vs Q E hr h => ?_), F.bindsN (fun _ _ _ _ _ _ us hl => match us, hl with | [_, _, _], _ => rfl), F.kp⟩
  obtain ⟨v0, v1, v2, rfl, h⟩ := h
  refine ⟨_, PSs.nox (pss_cons (ps_asg (pe_tup (pa_cons (pe_call G_law_pair (hr.mono (by decide)) (by rfl) T.g_law_pair k_law_pair b_law_pair .nil pass0 (pa_cons (pe_call G_law_rank (hr.mono (by decide)) (by rfl) T.g_law_rank k_law_rank b_law_rank .nil pass0 (pa_cons (pv 0) (pa_cons (pv 1) pa_nil))) (pa_cons (pe_call G_law_rank (hr.mono (by decide)) (by rfl) T.g_law_rank k_law_rank b_law_rank .nil pass0 (pa_cons (pv 0) (pa_cons (pv 2) pa_nil))) pa_nil))) (pa_cons (pe_call G_law_apart (hr.mono (by decide)) (by rfl) T.g_law_apart k_law_apart b_law_apart .nil pass0 (pa_cons (pv 1) (pa_cons (pv 2) pa_nil))) pa_nil))) (pg_tup rfl (pgs_cons (pg_name (i := 4) sc_law_is_near.nd rfl (Or.inr rfl)) (pgs_cons (pg_name (i := 5) sc_law_is_near.nd rfl (Or.inl rfl)) pgs_nil))))
    (pss_cons (ps_set (i := 3) sc_law_is_near.nd rfl (Or.inl rfl) (pe_op op_cat (pe_lc (own := [("_law_some", 6), ("_law_distance_here", 7)]) (g := gTup K 2 (gCons (gName 6) (gCons (gName 7) gNil))) (by rfl) sc_law_is_near.nd (pi_list (pe_dget (hu_of hr) (pv 0) pe_str (fun _ _ => rfl))) (blkOk_by (N := n_law_is_near) (sc := defScope d_law_is_near) (own := [("_law_some", 6), ("_law_distance_here", 7)]) (by decide +kernel)) (fun _ _ _ _ _ => (pg_tup rfl (pgs_cons (pg_name (i := 6) sc_law_is_near.nd rfl (Or.inl rfl) (.inr rfl)) (pgs_cons (pg_name (i := 7) sc_law_is_near.nd rfl (Or.inl rfl) (.inr rfl)) pgs_nil)))) (fun _ _ _ _ _ => (pts_one (pt_cmpR (op_eqDK (K := K) rfl hr.units) (pv 6) (pv 4) (nomark _)))) (fun _ _ _ _ _ => (pv 7))) (pe_lst (pa_cons pe_int pa_nil))))
    (pss_one (ps_ret (pe_cmpR op_lt (pe_callB (call_max2 (by rfl)) (by rfl) T.b_max (by decide +kernel) (pa_cons (pe_callTy call_int1 (by rfl) T.b_int boot_int (pa_cons (pe_ix ix_tup (pv 5) pe_int (fun _ _ => rfl)) pa_nil)) (pa_cons (pe_callTy call_int1 (by rfl) T.b_int boot_int (pa_cons (pe_ix ix_tup (pv 5) pe_int (fun _ _ => rfl)) pa_nil)) pa_nil))) (pe_ix ix_list (pv 3) pe_int (fun _ _ => rfl)) (nomark _)))))), ?_⟩
  obtain ⟨lo, la, lb, LA, ok, La, Lb, ka, kb, q⟩ := h
  have hr4 := ok.r4
  refine ⟨_, rfl, _, rfl, _, _, rfl, lo, la, LA, by omega, La, ka, fun H1 s1 => ?_⟩
  refine ⟨_, rfl, _, rfl, _, _, rfl, lo, lb, LA.same s1, by omega, Lb.same s1, kb, fun H2 s2 => ?_⟩
  have s12 := s1.trans s2
  generalize hi : rkOf (stL lo) la = i at q ⊢
  generalize hj : rkOf (stL lo) lb = j at q ⊢
  refine ⟨_, _, rfl, i, j, rfl, rfl, fun H3 tp s3 htp => ?_⟩
  have s13 := s12.trans s3
  refine ⟨_, rfl, _, rfl, _, _, rfl, la, lb, La.same s13, Lb.same s13, fun H4 tg s4 htg => ⟨(by show 2 ≤ sizeLine; decide), fun p hp => ?_⟩⟩
  have s5 := same_new (o := .tup [V.ref tp, V.ref tg]) hp
  refine ⟨p, _, rfl, SqT.of upd_same, rfl, _, _, rfl, _, _, rfl, rfl, ?_⟩
  have htp5 := s5 _ _ (s4 _ _ htp)
  have htg5 := s5 _ _ htg
  have s05 := (s13.trans s4).trans s5
  generalize upd H4 p (.tup [V.ref tp, V.ref tg]) = H5 at s5 htp5 htg5 s05 ⊢
  have LA5 := LA.same s05
  obtain ⟨d, B, F', L, rfl, h1, h2, ⟨fvs, hF, rvF⟩, h4⟩ := id LA5
  have hfl : fvs.length = lo.far.length := by rw [rvF.length, List.length_map]
  have hfl10 : lo.far.length ≤ 10 := by
    have h1 := ok.fa.length_le
    have h2 := allPairs_len hr4
    rw [List.length_map] at h1
    omega
  refine ⟨_, rfl, d, _, rfl, lg_far h1, F', rfl, ⟨_, SqL.of hF⟩, fun D3 hD3 => ?_⟩
  refine lc_fm (walk_list (xs := fvs)) (fun m => (lo.far[m]?).bind fun q => if decide (q.1 = rankP i j) = true then some (V.int q.2) else none) hD3 (by rw [hfl, sizeLine_eq]; omega) (fun H12 s12 => SqL.of (s12 _ _ hF)) ?_ ?_
  · rintro m v H12 H13 Ky Kn hm s12 ⟨rfl, hv⟩ ky kn
    have hm' : m < lo.far.length := by rw [← hfl]; exact hm
    have hq1 := List.getElem?_eq_getElem hm'
    obtain ⟨v2, hv2, rv2⟩ := rvF.get (i := m) (d := SL.farD lo.far[m]) (by rw [List.getElem?_map, hq1]; rfl)
    rw [hv] at hv2
    cases hv2
    generalize lo.far[m] = q at hq1 rv2
    obtain ⟨tq, tq', rfl, htq, htq'⟩ := far_parts (rv2.same s12)
    refine ⟨tq, _, rfl, SqT.of htq, rfl, _, _, rfl, _, _, rfl, rfl, rfl, ?_⟩
    refine ⟨_, rfl, _, rfl, SL.pairD q.1, SL.pairD (rankP i j), .tup (SqT.of htq') (.cons (.int _) (.cons (.int _) .nil)), .tup (SqT.of (s12 _ _ htp5)) (.cons (.int _) (.cons (.int _) .nil)), (pairD_shp _).shaped (by decide), (pairD_shp _).shaped (by decide), _, rfl, ?_⟩
    rw [pairD_eqv]
    by_cases hqe : q.1 = rankP i j
    · rw [decide_eq_true hqe]
      refine ⟨_, rfl, ky _ _ ?_ (Same.refl _)⟩
      rw [hq1]
      exact if_pos (decide_eq_true hqe)
    · rw [decide_eq_false hqe]
      refine kn _ ?_ (Same.refl _)
      rw [hq1]
      exact if_neg (by simpa using hqe)
  intro H12 s12 hD12
  rw [hfl, fm_get] at hD12
  have hD12 : H12 D3 = some (.lst (farV lo.far (rankP i j))) := hD12
  refine ⟨(by show 1 ≤ sizeLine; decide), fun q3 hq3 => ?_⟩
  have s13' := same_new (o := .lst [V.int 0]) hq3
  have hfv : (farV lo.far (rankP i j)).length ≤ 10 := Nat.le_trans (List.length_filterMap_le _ _) hfl10
  refine ⟨D3, q3, _, _, rfl, rfl, s13' _ _ hD12, upd_same, ?_, fun q4 hq4 => ?_⟩
  · rw [sizeLine_eq]
    show _ + 1 ≤ _
    omega
  have s14' := (s12.trans s13').trans (same_new (o := .lst (farV lo.far (rankP i j) ++ [V.int 0])) hq4)
  have hq4' : upd (upd H12 q3 (.lst [V.int 0])) q4 (.lst (farV lo.far (rankP i j) ++ [V.int 0])) q4 = some (.lst (farV lo.far (rankP i j) ++ [V.int 0])) := upd_same
  generalize upd (upd H12 q3 (.lst [V.int 0])) q4 (.lst (farV lo.far (rankP i j) ++ [V.int 0])) = H14 at s14' hq4' ⊢
  have htg14 := s14' _ _ htg5
  refine ⟨_, rfl, tg, _, _, _, rfl, rfl, SqT.of htg14, atI_nat (j := 0) rfl, .inl ⟨_, rfl, _, rfl, tg, _, _, _, rfl, rfl, SqT.of htg14, atI_nat (j := 1) rfl, .inl ⟨_, rfl, _, _, rfl, ?_⟩⟩⟩
  refine ⟨_, rfl, q4, _, _, _, rfl, rfl, SqL.of hq4', atI_nat (j := 0) (farV_head (stL lo) (rankP i j)), _, _, rfl, rfl, ?_⟩
  rw [gap_max]
  exact q _ (s05.trans s14')
end
end SK
set_option maxHeartbeats 4000000
namespace SL
open PySem PySem.Spec PyProof.Rows L2
theorem Pt.nl {p : Addr} {f : Nat} {H H' : Hp} (h : Pt p f H) (k : Kp p H H') : Nl H H' := by
  obtain ⟨l, h1, _⟩ := h
  exact Nl.kp k h1
theorem BxAt.nl {H H' : Hp} {v : V} {b : Option (Int × Int)} (h : BxAt H v b) (s : Nl H H') : BxAt H' v b := by
  cases b with
  | none => exact h
  | some b =>
    obtain ⟨t, e, h⟩ := h
    exact ⟨t, e, s.tup h⟩
def spStepL : Sp := sp5 fun a b c d e H Q _ => ∃ (p : Addr) (f : Nat) (lo : Lore) (la : Lab) (i : Nat) (r : SL.Row) (m : Int), a = .ref p ∧ Pt p (f + 7) H ∧ LoreAt H b lo ∧ LoreOk lo ∧ LabAt H c la ∧ LabL lo la ∧ d = .int i ∧ lo.rows[i]? = some r ∧ e = .int m ∧ 1 ≤ m ∧ m ≤ 100 ∧
  ∀ (x y : Int) (H' : Hp) (t : Addr), Pt p f H' → Kp p H H' → (la.letters ≤ 12 → m ≤ 12 → absI (x - la.x) ≤ 3456 ∧ absI (y - la.y) ≤ 3456) → H' t = some (.tup [.int x, .int y]) → Q (.ref t) H'
theorem mem_ints {x : V} {ns : List Int} (h : x ∈ ns.map V.int) : ∃ n ∈ ns, x = .int n := by
  obtain ⟨n, hn, e⟩ := List.mem_map.mp h
  exact ⟨n, hn, e.symm⟩
theorem box_rng {lo : Lore} {n : Int} {l : Lab} {b : Int × Int} (ok : LoreOk lo) (ll : LabL lo l) (h0 : 0 ≤ n) (hb : boxOf (stL lo) n l = some b) : 0 ≤ b.1 ∧ b.1 ≤ 1000000 ∧ 0 ≤ b.2 ∧ b.2 ≤ 10000 := by
  obtain ⟨r, _, hra, hrm⟩ := ll.row
  have z5 := ok.z5
  have hh := SK.hh_rng (st := stL lo) (n := n) (r := r) (size_pos (ok.rows.ok r hrm)).2.1 (size_pos (ok.rows.ok r hrm)).2.2 (by show lo.zooms - 1 - n ≤ 10; omega)
  unfold boxOf at hb
  rw [hra] at hb
  by_cases hz : 0 < sizeAt r n
  · have hb : (if 0 < sizeAt r n then some (l.letters * SK.hhOf (stL lo) n r, SK.hhOf (stL lo) n r) else none) = some b := hb
    rw [if_pos hz] at hb
    have e := Option.some.inj hb
    rw [← e]
    have l0 := ll.l0
    have l1 := ll.l1
    exact ⟨Int.mul_nonneg l0 hh.1, Int.le_trans (Int.mul_le_mul l1 hh.2 hh.1 (by decide)) (by decide), hh.1, by show SK.hhOf (stL lo) n r ≤ 10000; omega⟩
  · have hb : (if 0 < sizeAt r n then some (l.letters * SK.hhOf (stL lo) n r, SK.hhOf (stL lo) n r) else none) = some b := hb
    rw [if_neg hz] at hb
    cases hb
theorem step_bd {a s c : Int} (hs : s ∈ ([1, 1, -1] : List Int)) (h0 : 0 ≤ c) (h1 : c ≤ 3456) : absI (a + s * c - a) ≤ 3456 := by
  simp only [List.mem_cons, List.not_mem_nil, or_false] at hs
  unfold absI
  rcases hs with rfl | rfl | rfl <;> split <;> omega
theorem pow16 {e : Nat} (h : e ≤ 4) : (1 : Int) ≤ 2 ^ e ∧ (2 : Int) ^ e ≤ 16 := by
  have : e = 0 ∨ e = 1 ∨ e = 2 ∨ e = 3 ∨ e = 4 := by omega
  rcases this with rfl | rfl | rfl | rfl | rfl <;> decide
theorem box_rng12 {lo : Lore} {n : Int} {l : Lab} {b : Int × Int} (ok : LoreOk lo) (ll : LabL lo l) (h0 : 0 ≤ n) (hb : boxOf (stL lo) n l = some b) (h12 : l.letters ≤ 12) : b.1 ≤ 1728 ∧ b.2 ≤ 144 := by
  obtain ⟨r, _, hra, hrm⟩ := ll.row
  have z5 := ok.z5
  have s0 := (size_pos (n := n) (ok.rows.ok r hrm)).2.1
  have s9 := (size_pos (n := n) (ok.rows.ok r hrm)).2.2
  have hp := pow16 (e := (lo.zooms - 1 - n).toNat) (by omega)
  have hh : sizeAt r n * 2 ^ (lo.zooms - 1 - n).toNat ≤ 9 * 16 := Int.mul_le_mul s9 hp.2 (by omega) (by decide)
  have hh0 : 0 ≤ sizeAt r n * 2 ^ (lo.zooms - 1 - n).toNat := Int.mul_nonneg s0 (by omega)
  unfold boxOf at hb
  rw [hra] at hb
  have hb : (if 0 < sizeAt r n then some (l.letters * (sizeAt r n * 2 ^ (lo.zooms - 1 - n).toNat), sizeAt r n * 2 ^ (lo.zooms - 1 - n).toNat) else none) = some b := hb
  split at hb
  · have e := Option.some.inj hb
    rw [← e]
    exact ⟨Int.le_trans (Int.mul_le_mul h12 hh hh0 (by decide)) (by decide), Int.le_trans hh (by decide)⟩
  · cases hb
theorem half_rng12 {r : SL.Row} {z n m : Int} (hs : sizesOk r.sizes = true) (ht : isThere r n = true) (h0 : 0 ≤ n) (h1 : n < z) (h5 : z ≤ 5) (m1 : 1 ≤ m) (m2 : m ≤ 12) : m * sizeAt r n * pix z n ≤ 1728 := by
  have sz := sizes_rng hs (size_at ht).2.2
  have px := (pix_at h0 h1 h5).2
  have a2 : m * sizeAt r n ≤ 12 * 9 := Int.mul_le_mul m2 sz.2 (by omega) (by decide)
  have a1 : 1 * 1 ≤ m * sizeAt r n := Int.mul_le_mul m1 (by omega) (by decide) (by omega)
  have b2 : m * sizeAt r n * pix z n ≤ (12 * 9) * 16 := Int.mul_le_mul a2 px.2 (by omega) (by decide)
  omega
theorem half_rng {r : SL.Row} {z n m : Int} (hs : sizesOk r.sizes = true) (ht : isThere r n = true) (h0 : 0 ≤ n) (h1 : n < z) (h5 : z ≤ 5) (m1 : 1 ≤ m) (m2 : m ≤ 100) : 1 ≤ m * sizeAt r n * pix z n ∧ m * sizeAt r n * pix z n ≤ 100000 := by
  have sz := sizes_rng hs (size_at ht).2.2
  have px := (pix_at h0 h1 h5).2
  have a1 : 1 * 1 ≤ m * sizeAt r n := Int.mul_le_mul m1 (by omega) (by decide) (by omega)
  have a2 : m * sizeAt r n ≤ 100 * 9 := Int.mul_le_mul m2 sz.2 (by omega) (by decide)
  have b1 : (1 * 1) * 1 ≤ m * sizeAt r n * pix z n := Int.mul_le_mul a1 px.1 (by decide) (by omega)
  have b2 : m * sizeAt r n * pix z n ≤ (100 * 9) * 16 := Int.mul_le_mul a2 px.2 (by omega) (by decide)
  omega
end SL
namespace SK
open PySem PySem.Spec PyProof.Rows L2 SL
section
variable {w : World} {K : PySem.W.Frag} {mg : Str → Option Value} {base : Heap}
abbrev n_law_step : List Str := ["_law_pot_here", "_law_lore_here", "_law_ahead", "_law_i", "_law_letters", "_law_signs", "_law_zoom", "_law_some", "_law_box_here", "_law_one", "_law_wide", "_law_high", "_law_gap"]
theorem sc_law_step : FnScope n_law_step ["_law_pot_here", "_law_lore_here", "_law_ahead", "_law_i", "_law_letters"] (defScope d_law_step) := ⟨rfl, rfl, rfl, by decide +kernel, rfl, by decide +kernel, by decide +kernel⟩
theorem ok_law_step (T : Top w K mg) : Has prg w K mg base CX0 4 (He.ga K "_law_step") ["_law_pot_here", "_law_lore_here", "_law_ahead", "_law_i", "_law_letters"] spStepL := by
  obtain ⟨fd, F⟩ := T.F_law_step
  obtain ⟨fd_law_take, G_law_take, b_law_take, k_law_take⟩ := ok_law_take (base := base) T
  obtain ⟨fd_law_box, G_law_box, b_law_box, k_law_box⟩ := ok_law_box (base := base) T
  obtain ⟨fd_law_is_there, G_law_is_there, b_law_is_there, k_law_is_there⟩ := ok_law_is_there (base := base) T
  obtain ⟨fd_law_half, G_law_half, b_law_half, k_law_half⟩ := ok_law_half (base := base) T
  obtain ⟨fd_law_of, G_law_of, b_law_of, k_law_of⟩ := ok_law_of (base := base) T
  refine ⟨fd, F.ok (k := 3) sc_law_step (fun _ _ _ _ h => sp5_len h) (fun cdv A outer s H vs Q E hr h => ?_), F.bindsN (fun _ _ _ _ _ _ us hl => match us, hl with | [_, _, _, _, _], _ => rfl), F.kp⟩
  obtain ⟨v0, v1, v2, v3, v4, rfl, h⟩ := h
  refine ⟨_, PSs.nox (pss_cons (ps_par (i := 6) (j := 7) (by rfl) sc_law_step.nd rfl rfl (by decide) rfl rfl (pa_cons (pe_call G_law_take (hr.mono (by decide)) (by rfl) T.g_law_take k_law_take b_law_take .nil pass0 (pa_cons (pv 0) (pa_cons (pe_dget (hu_of hr) (pv 1) pe_str (fun _ _ => rfl)) pa_nil))) (pa_cons (pe_lst (pa_cons pe_int (pa_cons pe_int (pa_cons (pe_call G_law_take (hr.mono (by decide)) (by rfl) T.g_law_take k_law_take b_law_take .nil pass0 (pa_cons (pv 0) (pa_cons pe_int pa_nil))) pa_nil)))) pa_nil)) (by rfl))
    (pss_cons (ps_par (i := 8) (j := 9) (by rfl) sc_law_step.nd rfl rfl (by decide) rfl rfl (pa_cons (pe_call G_law_box (hr.mono (by decide)) (by rfl) T.g_law_box k_law_box b_law_box .nil pass0 (pa_cons (pv 1) (pa_cons (pv 2) (pa_cons (pv 6) pa_nil)))) (pa_cons (pe_ix ix_list (pe_dget (hu_of hr) (pv 1) pe_str (fun _ _ => rfl)) (pv 3) (fun _ _ => rfl)) pa_nil)) (by rfl))
    (pss_cons (ps_if (PW.pt (pw_and (pt_cmpR op_notN (pv 8) pe_non (nomark _)) (pw_and1 (pt_val (pe_call G_law_is_there (hr.mono (by decide)) (by rfl) T.g_law_is_there k_law_is_there b_law_is_there .nil pass0 (pa_cons (pv 9) (pa_cons (pv 6) pa_nil))))))) (pss_cons (ps_set (i := 10) sc_law_step.nd rfl (Or.inl rfl) (pe_op op_add (pe_ix ix_tup (pv 8) pe_int (fun _ _ => rfl)) (pe_call G_law_half (hr.mono (by decide)) (by rfl) T.g_law_half k_law_half b_law_half .nil pass0 (pa_cons (pv 1) (pa_cons (pv 3) (pa_cons (pv 4) (pa_cons (pv 6) pa_nil)))))))
    (pss_cons (ps_set (i := 11) sc_law_step.nd rfl (Or.inl rfl) (pe_op op_add (pe_ix ix_tup (pv 8) pe_int (fun _ _ => rfl)) (pe_call G_law_half (hr.mono (by decide)) (by rfl) T.g_law_half k_law_half b_law_half .nil pass0 (pa_cons (pv 1) (pa_cons (pv 3) (pa_cons pe_int (pa_cons (pv 6) pa_nil)))))))
    (pss_cons (ps_set (i := 7) sc_law_step.nd rfl (Or.inl rfl) (pe_lst (pa_cons (pe_lst (pa_cons (pe_op op_sub (pv 10) pe_int) (pa_cons (pv 10) (pa_cons pe_int (pa_cons (pe_op op_sub (pv 10) pe_int) (pa_cons (pe_op op_fdivW (pv 10) pe_int) (pa_cons (pe_call G_law_take (hr.mono (by decide)) (by rfl) T.g_law_take k_law_take b_law_take .nil pass0 (pa_cons (pv 0) (pa_cons (pv 10) pa_nil))) pa_nil))))))) (pa_cons (pe_lst (pa_cons (pe_op op_sub (pv 11) pe_int) (pa_cons (pv 11) (pa_cons pe_int (pa_cons pe_int (pa_cons pe_int (pa_cons (pe_op op_fdivW (pv 11) pe_int) pa_nil))))))) pa_nil))))
    (pss_one (ps_set (i := 12) sc_law_step.nd rfl (Or.inl rfl) (pe_tup (pa_cons (pe_call G_law_of (hr.mono (by decide)) (by rfl) T.g_law_of k_law_of b_law_of .nil pass0 (pa_cons (pv 0) (pa_cons (pe_ix ix_list (pv 7) pe_int (fun _ _ => rfl)) pa_nil))) (pa_cons (pe_call G_law_of (hr.mono (by decide)) (by rfl) T.g_law_of k_law_of b_law_of .nil pass0 (pa_cons (pv 0) (pa_cons (pe_ix ix_list (pv 7) pe_int (fun _ _ => rfl)) pa_nil))) pa_nil)))))))) (pss_one (ps_set (i := 12) sc_law_step.nd rfl (Or.inl rfl) (pe_tup (pa_cons (pe_call G_law_of (hr.mono (by decide)) (by rfl) T.g_law_of k_law_of b_law_of .nil pass0 (pa_cons (pv 0) (pa_cons (pv 7) pa_nil))) (pa_cons (pe_call G_law_of (hr.mono (by decide)) (by rfl) T.g_law_of k_law_of b_law_of .nil pass0 (pa_cons (pv 0) (pa_cons (pv 7) pa_nil))) pa_nil))))))
    (pss_cons (ps_set (i := 5) sc_law_step.nd rfl (Or.inl rfl) (pe_lst (pa_cons (pe_call G_law_of (hr.mono (by decide)) (by rfl) T.g_law_of k_law_of b_law_of .nil pass0 (pa_cons (pv 0) (pa_cons (pe_lst (pa_cons pe_int (pa_cons pe_int (pa_cons (pe_un un_neg pe_int) pa_nil)))) pa_nil))) (pa_cons (pe_call G_law_of (hr.mono (by decide)) (by rfl) T.g_law_of k_law_of b_law_of .nil pass0 (pa_cons (pv 0) (pa_cons (pe_lst (pa_cons pe_int (pa_cons pe_int (pa_cons (pe_un un_neg pe_int) pa_nil)))) pa_nil))) pa_nil))))
    (pss_one (ps_ret (pe_tup (pa_cons (pe_op op_add (pe_ix ix_tup (pv 2) pe_int (fun _ _ => rfl)) (pe_op op_mul (pe_ix ix_list (pv 5) pe_int (fun _ _ => rfl)) (pe_ix ix_tup (pv 12) pe_int (fun _ _ => rfl)))) (pa_cons (pe_op op_add (pe_ix ix_tup (pv 2) pe_int (fun _ _ => rfl)) (pe_op op_mul (pe_ix ix_list (pv 5) pe_int (fun _ _ => rfl)) (pe_ix ix_tup (pv 12) pe_int (fun _ _ => rfl)))) pa_nil))))))))), ?_⟩
  obtain ⟨p, f, lo, la, i, r, m, rfl, hp, LA, ok, La, ll, rfl, hri, rfl, hm1, hm2, q⟩ := h
  obtain ⟨ta, rfl, hta⟩ := id La
  obtain ⟨d, B, F', L, rfl, h1, h2, h3, h4⟩ := id LA
  have hz1 := ok.z1
  have hz5 := ok.z5
  have hsz := (rowOk_iff.mp (ok.rows.ok r (List.mem_of_getElem? hri))).2.2.1
  refine ⟨_, rfl, _, rfl, d, _, rfl, lg_zooms h1, take_q hp (by omega) (by omega) fun z H1 z0 z1 hp1 k1 => ?_⟩
  refine ⟨_, rfl, take_q hp1 (by decide) (by decide) fun g H2 g0 g1 hp2 k2 => ⟨(by show 3 ≤ sizeLine; decide), fun S hS => ?_⟩⟩
  have k12 := k1.trans k2
  have s3 := same_new (o := .lst [V.int 0, V.int 1, V.int g]) hS
  have nS := hp2.ne hS
  have hS3 : upd H2 S (.lst [V.int 0, V.int 1, V.int g]) S = some (.lst [V.int 0, V.int 1, V.int g]) := upd_same
  have hp3 := hp2.same s3
  have k3 := k12.trans (Kp.of s3)
  generalize upd H2 S (.lst [V.int 0, V.int 1, V.int g]) = H3 at s3 hS3 hp3 k3 ⊢
  have LA3 := LA.kp hp k3
  have La3 := La.nl (hp.nl k3)
  refine ⟨_, _, rfl, ?_⟩
  refine ⟨_, rfl, _, rfl, _, rfl, _, _, _, rfl, lo, la, z, LA3, ok, La3, ll, rfl, z0, z1, fun H4 v s4 B4 => ?_⟩
  have LA4 := LA3.same s4
  have hp4 := hp3.same s4
  have k4 := k3.trans (Kp.of s4)
  have hS4 := s4 _ _ hS3
  have hta4 := (hp.nl k4).tup hta
  obtain ⟨d', B4', F4, L4, e4, h14, h24, h34, h44⟩ := id LA4
  cases e4
  obtain ⟨vs, vi, hL, hvi, rvi⟩ := h44.get hri
  refine ⟨_, rfl, d, _, rfl, lg_classes h14, _, rfl, L4, _, _, _, rfl, rfl, SqL.of hL, atI_nat hvi, _, _, rfl, ?_⟩
  refine ⟨_, rfl, rfl, _, rfl, ?_⟩
  cases e1 : boxOf (stL lo) z la with
  | none =>
    rw [e1] at B4
    cases B4
    rw [decide_eq_true rfl]
    refine ⟨_, rfl, _, rfl, of_q (hp4.mono (by omega) : Pt p (f + 4 + 1) H4) hS4 nS (by show 0 < 3; decide) (by show 3 ≤ 1000000; decide) fun u1 H5 hu1 hp5 k5 => ?_⟩
    obtain ⟨c1, hc1, rfl⟩ := mem_ints (ns := [0, 1, g]) hu1
    have hS5 := k5 _ _ nS hS4
    refine ⟨_, rfl, _, rfl, of_q hp5 hS5 nS (by show 0 < 3; decide) (by show 3 ≤ 1000000; decide) fun u2 H6 hu2 hp6 k6 => ⟨(by show 2 ≤ sizeLine; decide), fun tg htg0 => ?_⟩⟩
    obtain ⟨c2, hc2, rfl⟩ := mem_ints (ns := [0, 1, g]) hu2
    have s7 := same_new (o := .tup [V.int c1, V.int c2]) htg0
    have htg : upd H6 tg (.tup [V.int c1, V.int c2]) tg = some (.tup [V.int c1, V.int c2]) := upd_same
    have hp9 : Pt p (f + 1 + 1 + 1) (upd H6 tg (.tup [V.int c1, V.int c2])) := hp6.same s7
    have k9 := ((k4.trans k5).trans k6).trans (Kp.of s7)
    generalize upd H6 tg (.tup [V.int c1, V.int c2]) = H9 at htg hp9 k9 ⊢
    -- the signs
    have hta9 := (hp.nl k9).tup hta
    refine ⟨_, rfl, _, rfl, (by show 3 ≤ sizeLine; decide), fun a1 ha1 => ?_⟩
    have s10 := same_new (o := .lst [V.int 1, V.int 1, V.int (-1)]) ha1
    refine of_q (hp9.same s10) upd_same (hp9.ne ha1) (by show 0 < 3; decide) (by show 3 ≤ 1000000; decide) fun v1 H10 hv1 hp10 k10' => ?_
    have k10 := (k9.trans (Kp.of s10)).trans k10'
    have n10 : Nl H9 H10 := (Nl.of s10).trans ((hp9.same s10).nl k10')
    obtain ⟨g1', hg1, rfl⟩ := mem_ints (ns := [1, 1, -1]) hv1
    refine ⟨_, rfl, _, rfl, (by show 3 ≤ sizeLine; decide), fun a2 ha2 => ?_⟩
    have s11 := same_new (o := .lst [V.int 1, V.int 1, V.int (-1)]) ha2
    refine of_q (hp10.same s11) upd_same (hp10.ne ha2) (by show 0 < 3; decide) (by show 3 ≤ 1000000; decide) fun v2 H11 hv2 hp11 k11' => ?_
    have k11 := (k10.trans (Kp.of s11)).trans k11'
    have n11 : Nl H9 H11 := n10.trans ((Nl.of s11).trans ((hp10.same s11).nl k11'))
    obtain ⟨g2', hg2, rfl⟩ := mem_ints (ns := [1, 1, -1]) hv2
    have htg11 := n11.tup htg
    have hta11 := n11.tup hta9
    have b1 : -1 ≤ g1' ∧ g1' ≤ 1 := by
      simp only [List.mem_cons, List.not_mem_nil, or_false] at hg1
      omega
    have b2 : -1 ≤ g2' ∧ g2' ≤ 1 := by
      simp only [List.mem_cons, List.not_mem_nil, or_false] at hg2
      omega
    refine ⟨(by show 2 ≤ sizeLine; decide), fun S2 hS2 => ?_⟩
    have s12 := same_new (o := .lst [V.int g1', V.int g2']) hS2
    have hS12 : upd H11 S2 (.lst [V.int g1', V.int g2']) S2 = some (.lst [V.int g1', V.int g2']) := upd_same
    have hp12 := hp11.same s12
    have k12' := k11.trans (Kp.of s12)
    have htg12 := s12 _ _ htg11
    have hta12 := s12 _ _ hta11
    generalize upd H11 S2 (.lst [V.int g1', V.int g2']) = H12 at s12 hS12 hp12 k12' htg12 hta12 ⊢
    refine ⟨_, rfl, ta, _, _, _, rfl, rfl, SqT.of hta12, atI_nat (j := 4) rfl, _, rfl, S2, _, _, _, rfl, rfl, SqL.of hS12, atI_nat (j := 0) rfl, _, rfl, tg, _, _, _, rfl, rfl, SqT.of htg12, atI_nat (j := 0) rfl, _, _, rfl, rfl, .inl ⟨by omega, by omega⟩, _, _, rfl, rfl, ?_⟩
    refine ⟨_, rfl, ta, _, _, _, rfl, rfl, SqT.of hta12, atI_nat (j := 5) rfl, _, rfl, S2, _, _, _, rfl, rfl, SqL.of hS12, atI_nat (j := 1) rfl, _, rfl, tg, _, _, _, rfl, rfl, SqT.of htg12, atI_nat (j := 1) rfl, _, _, rfl, rfl, .inl ⟨by omega, by omega⟩, _, _, rfl, rfl, (by show 2 ≤ sizeLine; decide), fun t ht => ?_⟩
    exact q _ _ _ t ((hp12.same (same_new ht)).mono (by omega)) (k12'.trans (Kp.of (same_new ht))) (fun _ _ => by
      simp only [List.mem_cons, List.not_mem_nil, or_false] at hc1 hc2
      exact ⟨step_bd hg1 (by omega) (by omega), step_bd hg2 (by omega) (by omega)⟩) upd_same
  | some b =>
    rw [e1] at B4
    obtain ⟨tb, rfl, htb⟩ := B4
    rw [decide_eq_false (fun z => by cases z)]
    refine ⟨_, rfl, _, rfl, _, _, rfl, r, z, rvi, rfl, _, rfl, ?_⟩
    cases hth : isThere r z with
    | false =>
      refine ⟨_, rfl, _, rfl, of_q (hp4.mono (by omega) : Pt p (f + 4 + 1) H4) hS4 nS (by show 0 < 3; decide) (by show 3 ≤ 1000000; decide) fun u1 H5 hu1 hp5 k5 => ?_⟩
      obtain ⟨c1, hc1, rfl⟩ := mem_ints (ns := [0, 1, g]) hu1
      have hS5 := k5 _ _ nS hS4
      refine ⟨_, rfl, _, rfl, of_q hp5 hS5 nS (by show 0 < 3; decide) (by show 3 ≤ 1000000; decide) fun u2 H6 hu2 hp6 k6 => ⟨(by show 2 ≤ sizeLine; decide), fun tg htg0 => ?_⟩⟩
      obtain ⟨c2, hc2, rfl⟩ := mem_ints (ns := [0, 1, g]) hu2
      have s7 := same_new (o := .tup [V.int c1, V.int c2]) htg0
      have htg : upd H6 tg (.tup [V.int c1, V.int c2]) tg = some (.tup [V.int c1, V.int c2]) := upd_same
      have hp9 : Pt p (f + 1 + 1 + 1) (upd H6 tg (.tup [V.int c1, V.int c2])) := hp6.same s7
      have k9 := ((k4.trans k5).trans k6).trans (Kp.of s7)
      generalize upd H6 tg (.tup [V.int c1, V.int c2]) = H9 at htg hp9 k9 ⊢
      -- the signs
      have hta9 := (hp.nl k9).tup hta
      refine ⟨_, rfl, _, rfl, (by show 3 ≤ sizeLine; decide), fun a1 ha1 => ?_⟩
      have s10 := same_new (o := .lst [V.int 1, V.int 1, V.int (-1)]) ha1
      refine of_q (hp9.same s10) upd_same (hp9.ne ha1) (by show 0 < 3; decide) (by show 3 ≤ 1000000; decide) fun v1 H10 hv1 hp10 k10' => ?_
      have k10 := (k9.trans (Kp.of s10)).trans k10'
      have n10 : Nl H9 H10 := (Nl.of s10).trans ((hp9.same s10).nl k10')
      obtain ⟨g1', hg1, rfl⟩ := mem_ints (ns := [1, 1, -1]) hv1
      refine ⟨_, rfl, _, rfl, (by show 3 ≤ sizeLine; decide), fun a2 ha2 => ?_⟩
      have s11 := same_new (o := .lst [V.int 1, V.int 1, V.int (-1)]) ha2
      refine of_q (hp10.same s11) upd_same (hp10.ne ha2) (by show 0 < 3; decide) (by show 3 ≤ 1000000; decide) fun v2 H11 hv2 hp11 k11' => ?_
      have k11 := (k10.trans (Kp.of s11)).trans k11'
      have n11 : Nl H9 H11 := n10.trans ((Nl.of s11).trans ((hp10.same s11).nl k11'))
      obtain ⟨g2', hg2, rfl⟩ := mem_ints (ns := [1, 1, -1]) hv2
      have htg11 := n11.tup htg
      have hta11 := n11.tup hta9
      have b1 : -1 ≤ g1' ∧ g1' ≤ 1 := by
        simp only [List.mem_cons, List.not_mem_nil, or_false] at hg1
        omega
      have b2 : -1 ≤ g2' ∧ g2' ≤ 1 := by
        simp only [List.mem_cons, List.not_mem_nil, or_false] at hg2
        omega
      refine ⟨(by show 2 ≤ sizeLine; decide), fun S2 hS2 => ?_⟩
      have s12 := same_new (o := .lst [V.int g1', V.int g2']) hS2
      have hS12 : upd H11 S2 (.lst [V.int g1', V.int g2']) S2 = some (.lst [V.int g1', V.int g2']) := upd_same
      have hp12 := hp11.same s12
      have k12' := k11.trans (Kp.of s12)
      have htg12 := s12 _ _ htg11
      have hta12 := s12 _ _ hta11
      generalize upd H11 S2 (.lst [V.int g1', V.int g2']) = H12 at s12 hS12 hp12 k12' htg12 hta12 ⊢
      refine ⟨_, rfl, ta, _, _, _, rfl, rfl, SqT.of hta12, atI_nat (j := 4) rfl, _, rfl, S2, _, _, _, rfl, rfl, SqL.of hS12, atI_nat (j := 0) rfl, _, rfl, tg, _, _, _, rfl, rfl, SqT.of htg12, atI_nat (j := 0) rfl, _, _, rfl, rfl, .inl ⟨by omega, by omega⟩, _, _, rfl, rfl, ?_⟩
      refine ⟨_, rfl, ta, _, _, _, rfl, rfl, SqT.of hta12, atI_nat (j := 5) rfl, _, rfl, S2, _, _, _, rfl, rfl, SqL.of hS12, atI_nat (j := 1) rfl, _, rfl, tg, _, _, _, rfl, rfl, SqT.of htg12, atI_nat (j := 1) rfl, _, _, rfl, rfl, .inl ⟨by omega, by omega⟩, _, _, rfl, rfl, (by show 2 ≤ sizeLine; decide), fun t ht => ?_⟩
      exact q _ _ _ t ((hp12.same (same_new ht)).mono (by omega)) (k12'.trans (Kp.of (same_new ht))) (fun _ _ => by
      simp only [List.mem_cons, List.not_mem_nil, or_false] at hc1 hc2
      exact ⟨step_bd hg1 (by omega) (by omega), step_bd hg2 (by omega) (by omega)⟩) upd_same
    | true =>
      obtain ⟨bb1, bb2, bb3, bb4⟩ := box_rng ok ll z0 e1
      obtain ⟨hw1, hw2⟩ := half_rng hsz hth z0 z1 hz5 hm1 hm2
      obtain ⟨hh1, hh2⟩ := half_rng (m := 1) hsz hth z0 z1 hz5 (by decide) (by decide)
      refine ⟨_, rfl, tb, _, _, _, rfl, rfl, SqT.of htb, atI_nat (j := 0) rfl, _, rfl, _, rfl, _, rfl, _, rfl, _, _, _, _, rfl, lo, i, r, m, z, LA4, hz5, rfl, hri, rfl, by omega, hm2, rfl, z0, z1, hth, hsz, fun H5 s5 => ⟨_, _, rfl, rfl, ?_⟩⟩
      have htb5 := s5 _ _ htb
      refine ⟨_, rfl, tb, _, _, _, rfl, rfl, SqT.of htb5, atI_nat (j := 1) rfl, _, rfl, _, rfl, _, rfl, _, _, _, _, rfl, lo, i, r, 1, z, LA4.same s5, hz5, rfl, hri, rfl, by decide, by decide, rfl, z0, z1, hth, hsz, fun H6 s6 => ⟨_, _, rfl, rfl, ?_⟩⟩
      have hp6 := (hp4.same s5).same s6
      have k6 := (k4.trans (Kp.of s5)).trans (Kp.of s6)
      have ew : 0 < b.1 + m * sizeAt r z * pix lo.zooms z ∧ b.1 + m * sizeAt r z * pix lo.zooms z ≤ 10 ^ 18 := ⟨by omega, by omega⟩
      refine ⟨_, rfl, _, _, rfl, rfl, _, rfl, _, rfl, _, _, rfl, rfl, _, rfl, _, _, rfl, rfl, (show CDivW (b.1 + m * sizeAt r z * pix lo.zooms z) 2 from ⟨by decide, by decide⟩), _, rfl, _, rfl, take_q hp6 ew.1 ew.2 fun tk H7 tk0 tk1 hp7 k7 => ?_⟩
      refine ⟨(by show 6 ≤ sizeLine; decide), fun W1 hW1 => ?_⟩
      have nW1 := hp7.ne hW1
      have s8 := same_new (o := .lst [V.int ((b.1 + m * sizeAt r z * pix lo.zooms z) - 1), V.int (b.1 + m * sizeAt r z * pix lo.zooms z), V.int 0, V.int ((b.1 + m * sizeAt r z * pix lo.zooms z) - 1), V.int ((b.1 + m * sizeAt r z * pix lo.zooms z) / 2), V.int tk]) hW1
      have hW8 : upd H7 W1 (.lst [V.int ((b.1 + m * sizeAt r z * pix lo.zooms z) - 1), V.int (b.1 + m * sizeAt r z * pix lo.zooms z), V.int 0, V.int ((b.1 + m * sizeAt r z * pix lo.zooms z) - 1), V.int ((b.1 + m * sizeAt r z * pix lo.zooms z) / 2), V.int tk]) W1 = some (.lst ([(b.1 + m * sizeAt r z * pix lo.zooms z) - 1, (b.1 + m * sizeAt r z * pix lo.zooms z), 0, (b.1 + m * sizeAt r z * pix lo.zooms z) - 1, (b.1 + m * sizeAt r z * pix lo.zooms z) / 2, tk].map V.int)) := upd_same
      have hp8 := hp7.same s8
      have k8 := (k6.trans k7).trans (Kp.of s8)
      refine ⟨_, rfl, _, _, rfl, rfl, _, rfl, _, rfl, _, _, rfl, rfl, (show CDivW (b.2 + 1 * sizeAt r z * pix lo.zooms z) 2 from ⟨by decide, by decide⟩), ?_⟩
      refine ⟨(by show 6 ≤ sizeLine; decide), fun W2 hW2 => ?_⟩
      have nW2 := hp8.ne hW2
      have s9 := same_new (o := .lst [V.int ((b.2 + 1 * sizeAt r z * pix lo.zooms z) - 1), V.int (b.2 + 1 * sizeAt r z * pix lo.zooms z), V.int 0, V.int 0, V.int 1, V.int ((b.2 + 1 * sizeAt r z * pix lo.zooms z) / 2)]) hW2
      have hW9 := s9 _ _ hW8
      have hV9 : upd (upd H7 W1 (.lst [V.int ((b.1 + m * sizeAt r z * pix lo.zooms z) - 1), V.int (b.1 + m * sizeAt r z * pix lo.zooms z), V.int 0, V.int ((b.1 + m * sizeAt r z * pix lo.zooms z) - 1), V.int ((b.1 + m * sizeAt r z * pix lo.zooms z) / 2), V.int tk])) W2 (.lst [V.int ((b.2 + 1 * sizeAt r z * pix lo.zooms z) - 1), V.int (b.2 + 1 * sizeAt r z * pix lo.zooms z), V.int 0, V.int 0, V.int 1, V.int ((b.2 + 1 * sizeAt r z * pix lo.zooms z) / 2)]) W2 = some (.lst ([(b.2 + 1 * sizeAt r z * pix lo.zooms z) - 1, (b.2 + 1 * sizeAt r z * pix lo.zooms z), 0, 0, 1, (b.2 + 1 * sizeAt r z * pix lo.zooms z) / 2].map V.int)) := upd_same
      have hpA := hp8.same s9
      have kA := k8.trans (Kp.of s9)
      refine ⟨(by show 2 ≤ sizeLine; decide), fun W3 hW3 => ?_⟩
      have nW3 := hpA.ne hW3
      have sB := same_new (o := .lst [V.ref W1, V.ref W2]) hW3
      have hWB := sB _ _ hW9
      have hVB := sB _ _ hV9
      have hpB := hpA.same sB
      have kB := kA.trans (Kp.of sB)
      have hUB : upd (upd (upd H7 W1 (.lst [V.int ((b.1 + m * sizeAt r z * pix lo.zooms z) - 1), V.int (b.1 + m * sizeAt r z * pix lo.zooms z), V.int 0, V.int ((b.1 + m * sizeAt r z * pix lo.zooms z) - 1), V.int ((b.1 + m * sizeAt r z * pix lo.zooms z) / 2), V.int tk])) W2 (.lst [V.int ((b.2 + 1 * sizeAt r z * pix lo.zooms z) - 1), V.int (b.2 + 1 * sizeAt r z * pix lo.zooms z), V.int 0, V.int 0, V.int 1, V.int ((b.2 + 1 * sizeAt r z * pix lo.zooms z) / 2)])) W3 (.lst [V.ref W1, V.ref W2]) W3 = some (.lst [V.ref W1, V.ref W2]) := upd_same
      generalize upd (upd (upd H7 W1 (.lst [V.int ((b.1 + m * sizeAt r z * pix lo.zooms z) - 1), V.int (b.1 + m * sizeAt r z * pix lo.zooms z), V.int 0, V.int ((b.1 + m * sizeAt r z * pix lo.zooms z) - 1), V.int ((b.1 + m * sizeAt r z * pix lo.zooms z) / 2), V.int tk])) W2 (.lst [V.int ((b.2 + 1 * sizeAt r z * pix lo.zooms z) - 1), V.int (b.2 + 1 * sizeAt r z * pix lo.zooms z), V.int 0, V.int 0, V.int 1, V.int ((b.2 + 1 * sizeAt r z * pix lo.zooms z) / 2)])) W3 (.lst [V.ref W1, V.ref W2]) = HB at hWB hVB hpB kB hUB ⊢
      refine ⟨_, rfl, _, rfl, W3, _, _, _, rfl, rfl, SqL.of hUB, atI_nat (j := 0) rfl, of_q (hpB.mono (by omega) : Pt p (f + 3 + 1) HB) hWB nW1 (by show 0 < 6; decide) (by show 6 ≤ 1000000; decide) fun u1 HC hu1 hpC kC => ?_⟩
      obtain ⟨c1, hc1, rfl⟩ := mem_ints hu1
      refine ⟨_, rfl, _, rfl, W3, _, _, _, rfl, rfl, SqL.of (kC _ _ nW3 hUB), atI_nat (j := 1) rfl, of_q hpC (kC _ _ nW2 hVB) nW2 (by show 0 < 6; decide) (by show 6 ≤ 1000000; decide) fun u2 HD hu2 hpD kD => ⟨(by show 2 ≤ sizeLine; decide), fun tg htg0 => ?_⟩⟩
      obtain ⟨c2, hc2, rfl⟩ := mem_ints hu2
      have s7 := same_new (o := .tup [V.int c1, V.int c2]) htg0
      have htg : upd HD tg (.tup [V.int c1, V.int c2]) tg = some (.tup [V.int c1, V.int c2]) := upd_same
      have hp9 : Pt p (f + 1 + 1) (upd HD tg (.tup [V.int c1, V.int c2])) := hpD.same s7
      have k9 := ((kB.trans kC).trans kD).trans (Kp.of s7)
      generalize upd HD tg (.tup [V.int c1, V.int c2]) = H9 at htg hp9 k9 ⊢
      -- the signs
      have hta9 := (hp.nl k9).tup hta
      refine ⟨_, rfl, _, rfl, (by show 3 ≤ sizeLine; decide), fun a1 ha1 => ?_⟩
      have s10 := same_new (o := .lst [V.int 1, V.int 1, V.int (-1)]) ha1
      refine of_q (hp9.same s10) upd_same (hp9.ne ha1) (by show 0 < 3; decide) (by show 3 ≤ 1000000; decide) fun v1 H10 hv1 hp10 k10' => ?_
      have k10 := (k9.trans (Kp.of s10)).trans k10'
      have n10 : Nl H9 H10 := (Nl.of s10).trans ((hp9.same s10).nl k10')
      obtain ⟨g1', hg1, rfl⟩ := mem_ints (ns := [1, 1, -1]) hv1
      refine ⟨_, rfl, _, rfl, (by show 3 ≤ sizeLine; decide), fun a2 ha2 => ?_⟩
      have s11 := same_new (o := .lst [V.int 1, V.int 1, V.int (-1)]) ha2
      refine of_q (hp10.same s11) upd_same (hp10.ne ha2) (by show 0 < 3; decide) (by show 3 ≤ 1000000; decide) fun v2 H11 hv2 hp11 k11' => ?_
      have k11 := (k10.trans (Kp.of s11)).trans k11'
      have n11 : Nl H9 H11 := n10.trans ((Nl.of s11).trans ((hp10.same s11).nl k11'))
      obtain ⟨g2', hg2, rfl⟩ := mem_ints (ns := [1, 1, -1]) hv2
      have htg11 := n11.tup htg
      have hta11 := n11.tup hta9
      have b1 : -1 ≤ g1' ∧ g1' ≤ 1 := by
        simp only [List.mem_cons, List.not_mem_nil, or_false] at hg1
        omega
      have b2 : -1 ≤ g2' ∧ g2' ≤ 1 := by
        simp only [List.mem_cons, List.not_mem_nil, or_false] at hg2
        omega
      refine ⟨(by show 2 ≤ sizeLine; decide), fun S2 hS2 => ?_⟩
      have s12 := same_new (o := .lst [V.int g1', V.int g2']) hS2
      have hS12 : upd H11 S2 (.lst [V.int g1', V.int g2']) S2 = some (.lst [V.int g1', V.int g2']) := upd_same
      have hp12 := hp11.same s12
      have k12' := k11.trans (Kp.of s12)
      have htg12 := s12 _ _ htg11
      have hta12 := s12 _ _ hta11
      generalize upd H11 S2 (.lst [V.int g1', V.int g2']) = H12 at s12 hS12 hp12 k12' htg12 hta12 ⊢
      refine ⟨_, rfl, ta, _, _, _, rfl, rfl, SqT.of hta12, atI_nat (j := 4) rfl, _, rfl, S2, _, _, _, rfl, rfl, SqL.of hS12, atI_nat (j := 0) rfl, _, rfl, tg, _, _, _, rfl, rfl, SqT.of htg12, atI_nat (j := 0) rfl, _, _, rfl, rfl, .inl ⟨by omega, by omega⟩, _, _, rfl, rfl, ?_⟩
      refine ⟨_, rfl, ta, _, _, _, rfl, rfl, SqT.of hta12, atI_nat (j := 5) rfl, _, rfl, S2, _, _, _, rfl, rfl, SqL.of hS12, atI_nat (j := 1) rfl, _, rfl, tg, _, _, _, rfl, rfl, SqT.of htg12, atI_nat (j := 1) rfl, _, _, rfl, rfl, .inl ⟨by omega, by omega⟩, _, _, rfl, rfl, (by show 2 ≤ sizeLine; decide), fun t ht => ?_⟩
      exact q _ _ _ t ((hp12.same (same_new ht)).mono (by omega)) (k12'.trans (Kp.of (same_new ht))) (fun l12 m12 => by
        obtain ⟨d1, d2⟩ := box_rng12 ok ll z0 e1 l12
        have d3 := half_rng12 hsz hth z0 z1 hz5 hm1 m12
        have d4 := half_rng12 (m := 1) hsz hth z0 z1 hz5 (by decide) (by decide)
        simp only [List.mem_cons, List.not_mem_nil, or_false] at hc1 hc2
        exact ⟨step_bd hg1 (by omega) (by omega), step_bd hg2 (by omega) (by omega)⟩) upd_same
end
end SK
set_option maxHeartbeats 4000000
namespace SL
open PySem PySem.Spec PyProof.Rows L2
theorem absI_neg (i : Int) : absI (-i) = absI i := by
  unfold absI
  split <;> split <;> omega
theorem gap_comm (a b : Lab) : gapOf a b = gapOf b a := by
  unfold gapOf
  rw [← absI_neg (a.x - b.x), ← absI_neg (a.y - b.y), Int.neg_sub, Int.neg_sub]
theorem rankP_comm (i j : Nat) : rankP i j = rankP j i := by
  unfold rankP
  by_cases h1 : i ≤ j <;> by_cases h2 : j ≤ i
  · have : i = j := by omega
    subst this
    rfl
  · rw [if_pos h1, if_neg h2]
  · rw [if_neg h1, if_pos h2]
  · omega
theorem labOk_L {lo : Lore} (ok : LoreOk lo) {l : Lab} (h : labOk (stL lo) l = true) : LabL lo l := by
  have hk := labOk_kind h
  unfold labOk at h
  rw [Bool.and_eq_true, Bool.and_eq_true] at h
  cases hr : rowAt (stL lo) l with
  | none =>
    rw [hr] at h
    cases h.2.2
  | some r =>
    rw [hr] at h
    have h3 := h.2.2
    simp only [Bool.and_eq_true, inR, decide_eq_true_eq] at h3
    have hm : r ∈ lo.rows := List.mem_of_getElem? hr
    obtain ⟨_, _, _, _, g1, g2, g3, g4⟩ := rowOk_iff.mp (ok.rows.ok r hm)
    exact ⟨hk, by omega, by omega⟩
theorem goodTo_snoc {st : RSt} {fs : List Lab} {b : Lab} (g : goodTo st fs fs.length) (h : canOf st fs b = true) : goodTo st (fs ++ [b]) (fs ++ [b]).length := fun j a hj ha => by
  rw [List.length_append, List.length_singleton] at hj
  by_cases e : j < fs.length
  · rw [List.getElem?_append_left e] at ha
    rw [List.take_append_of_le_length (by omega)]
    exact g j a e ha
  · have e : j = fs.length := by omega
    subst e
    rw [List.getElem?_append_right (Nat.le_refl _), Nat.sub_self] at ha
    cases ha
    rw [List.take_append_of_le_length (Nat.le_refl _), List.take_length]
    exact h
structure LbS (p D N : Addr) (g : Nat) (H G : Hp) (lo : Lore) (us : List V) (fs : List Lab) : Prop where
  kp : Kp p H G
  pt : Pt p g G
  ls : G D = some (.lst us)
  nm : G N = some (.lst ((fs.map (·.name)).map V.str))
  at_ : LabsAt G us fs
  gd : goodTo (stL lo) fs fs.length
section
variable {p D N : Addr} {g g' : Nat} {H G G' : Hp} {lo : Lore} {us : List V} {fs : List Lab}
theorem LbS.same (c : LbS p D N g H G lo us fs) (s : Same G G') : LbS p D N g H G' lo us fs := ⟨c.kp.trans (Kp.of s), c.pt.same s, s _ _ c.ls, s _ _ c.nm, c.at_.same s, c.gd⟩
theorem LbS.draw (c : LbS p D N g H G lo us fs) (nD : D ≠ p) (nN : N ≠ p) (k : Kp p G G') (pt : Pt p g' G') : LbS p D N g' H G' lo us fs := ⟨c.kp.trans k, pt, k _ _ nD c.ls, k _ _ nN c.nm, c.at_.nl (c.pt.nl k), c.gd⟩
end
theorem Nl.lst {G : Hp} {D : Addr} {us vs : List V} (h : G D = some (.lst us)) : Nl G (upd G D (.lst vs)) := fun b o n e => by
  rw [upd_ne (fun z => by rw [z, h] at e; exact n us (Option.some.inj e).symm)]
  exact e
theorem canOf_new {lo : Lore} {fs : List Lab} {b : Lab} {r : SL.Row} (hl : fs.length < 30) (hn : isName b.name = true) (hr : lo.rows[rkOf (stL lo) b]? = some r) (hk : b.kind ∈ names (stL lo)) (l1 : r.least ≤ b.letters) (l2 : b.letters ≤ r.most) (w0 : 0 ≤ b.weight) (w9 : b.weight ≤ 9)
    (hx : ¬ 99999 < (if absI b.y > absI b.x then absI b.y else absI b.x)) (hnew : b.name ∉ fs.map (·.name)) (hfar : (fs.any fun c => decide (gapOf b c < farOf (stL lo) (rankP (rkOf (stL lo) b) (rkOf (stL lo) c)))) = false) : canOf (stL lo) fs b = true := by
  have ok : labOk (stL lo) b = true := by
    unfold labOk
    rw [hn, decide_eq_true hk, show rowAt (stL lo) b = some r from hr]
    have a1 : -99999 ≤ b.x ∧ b.x ≤ 99999 ∧ -99999 ≤ b.y ∧ b.y ≤ 99999 := by
      unfold absI at hx
      split at hx <;> split at hx <;> (try split at hx) <;> omega
    simp only [inR, Bool.true_and]
    simp [l1, l2, w0, w9, a1]
  unfold canOf
  rw [decide_eq_true hl, ok, Bool.true_and, Bool.true_and, List.all_eq_true]
  intro c hc
  have h1 := List.any_eq_false.mp hfar c hc
  have h2 : c.name ≠ b.name := fun e => hnew (by rw [← e]; exact List.mem_map.mpr ⟨c, hc, rfl⟩)
  unfold nearOf
  rw [decide_eq_false h2, gap_comm c b, rankP_comm]
  simpa using h1
def LbB (i : Nat) (fs : List Lab) : Prop := ∀ a ∈ fs, a.letters ≤ 12 ∧ absI a.x ≤ 25 + 3456 * (i : Int) ∧ absI a.y ≤ 25 + 3456 * (i : Int)
theorem LbB.mono {i j : Nat} {fs : List Lab} (h : LbB i fs) (e : i ≤ j) : LbB j fs := fun a ha => by
  obtain ⟨h1, h2, h3⟩ := h a ha
  exact ⟨h1, by omega, by omega⟩
theorem LbB.snoc {i : Nat} {fs : List Lab} {b : Lab} (h : LbB i fs) (h1 : b.letters ≤ 12) (h2 : absI b.x ≤ 25 + 3456 * ((i + 1 : Nat) : Int)) (h3 : absI b.y ≤ 25 + 3456 * ((i + 1 : Nat) : Int)) : LbB (i + 1) (fs ++ [b]) := fun a ha => by
  rcases List.mem_append.mp ha with ha | ha
  · exact h.mono (Nat.le_succ _) a ha
  · rw [List.mem_singleton.mp ha]
    exact ⟨h1, h2, h3⟩
theorem abs_step {x a : Int} {i : Nat} (h : absI (x - a) ≤ 3456) (ha : absI a ≤ 25 + 3456 * (i : Int)) : absI x ≤ 25 + 3456 * ((i + 1 : Nat) : Int) := by
  unfold absI at *
  split at h <;> split at ha <;> split <;> omega
def spLabelsL : Sp := sp3 fun a b c H Q _ => ∃ (p : Addr) (f mn : Nat) (lo : Lore), a = .ref p ∧ Pt p (f + 40 * mn) H ∧ LoreAt H b lo ∧ LoreOk lo ∧ c = .int mn ∧ mn ≤ 30 ∧
  ∀ (L : Addr) (us : List V) (fs : List Lab) (H' : Hp), H L = none → L ≠ p → Kp p H H' → Pt p f H' → H' L = some (.lst us) → LabsAt H' us fs → goodTo (stL lo) fs fs.length → fs.length ≤ mn → (0 < mn → 0 < fs.length) → LbB mn fs → Q (.ref L) H'
end SL
namespace SK
open PySem PySem.Spec PyProof.Rows L2 SL
section
variable {w : World} {K : PySem.W.Frag} {mg : Str → Option Value} {base : Heap}
abbrev n_law_labels : List Str := ["_law_pot_here", "_law_lore_here", "_law_many", "_law_turn", "_law_found", "_law_names", "_law_one", "_law_letters", "_law_weight", "_law_label", "_law_is_far_out", "_law_i", "_law_name_here", "_law_x", "_law_y", "_law_ahead"]
theorem sc_law_labels : FnScope n_law_labels ["_law_pot_here", "_law_lore_here", "_law_many"] (defScope d_law_labels) := ⟨rfl, rfl, rfl, by decide +kernel, rfl, by decide +kernel, by decide +kernel⟩
theorem ok_law_labels (T : Top w K mg) : Has prg w K mg base CX0 5 (He.ga K "_law_labels") ["_law_pot_here", "_law_lore_here", "_law_many"] spLabelsL := by
  obtain ⟨fd, F⟩ := T.F_law_labels
  obtain ⟨fd_law_name, G_law_name, b_law_name, k_law_name⟩ := ok_law_name (base := base) T
  obtain ⟨fd_law_take, G_law_take, b_law_take, k_law_take⟩ := ok_law_take (base := base) T
  obtain ⟨fd_law_of, G_law_of, b_law_of, k_law_of⟩ := ok_law_of (base := base) T
  obtain ⟨fd_law_step, G_law_step, b_law_step, k_law_step⟩ := ok_law_step (base := base) T
  obtain ⟨fd_law_is_near, G_law_is_near, b_law_is_near, k_law_is_near⟩ := ok_law_is_near (base := base) T
  refine ⟨fd, F.ok (k := 4) sc_law_labels (fun _ _ _ _ h => sp3_len h) (fun cdv A outer s H vs Q E hr h => ?_), F.bindsN (fun _ _ _ _ _ _ us hl => match us, hl with | [_, _, _], _ => rfl), F.kp⟩
  obtain ⟨v0, v1, v2, rfl, h⟩ := h
  refine ⟨_, PSs.nox (pss_cons (ps_par (i := 4) (j := 5) (by rfl) sc_law_labels.nd rfl rfl (by decide) rfl rfl (pa_cons (pe_lst pa_nil) (pa_cons (pe_lst pa_nil) pa_nil)) (by rfl))
    (pss_cons (ps_for PassesOwn.never rfl (pi_range1 (by rfl) T.b_range (pa_cons (pv 2) pa_nil)) (pg_name (i := 3) sc_law_labels.nd rfl (Or.inl rfl)) (pss_cons (ps_par (i := 11) (j := 12) (by rfl) sc_law_labels.nd rfl rfl (by decide) rfl rfl (pa_cons (pe_call G_law_take (hr.mono (by decide)) (by rfl) T.g_law_take k_law_take b_law_take .nil pass0 (pa_cons (pv 0) (pa_cons (pe_callB call_len (by rfl) T.b_len (by decide +kernel) (pa_cons (pe_dget (hu_of hr) (pv 1) pe_str (fun _ _ => rfl)) pa_nil)) pa_nil))) (pa_cons (pe_call G_law_name (hr.mono (by decide)) (by rfl) T.g_law_name k_law_name b_law_name .nil pass0 (pa_cons (pv 0) (pa_cons (pv 5) pa_nil))) pa_nil)) (by rfl))
    (pss_cons (ps_set (i := 6) sc_law_labels.nd rfl (Or.inl rfl) (pe_ix ix_list (pe_dget (hu_of hr) (pv 1) pe_str (fun _ _ => rfl)) (pv 11) (fun _ _ => rfl)))
    (pss_cons (ps_set (i := 7) sc_law_labels.nd rfl (Or.inl rfl) (pe_call G_law_of (hr.mono (by decide)) (by rfl) T.g_law_of k_law_of b_law_of .nil pass0 (pa_cons (pv 0) (pa_cons (pe_lst (pa_cons (pe_ix ix_tup (pv 6) pe_int (fun _ _ => rfl)) (pa_cons (pe_ix ix_tup (pv 6) pe_int (fun _ _ => rfl)) (pa_cons (pe_op op_add (pe_ix ix_tup (pv 6) pe_int (fun _ _ => rfl)) (pe_call G_law_take (hr.mono (by decide)) (by rfl) T.g_law_take k_law_take b_law_take .nil pass0 (pa_cons (pv 0) (pa_cons (pe_op op_add (pe_op op_sub (pe_ix ix_tup (pv 6) pe_int (fun _ _ => rfl)) (pe_ix ix_tup (pv 6) pe_int (fun _ _ => rfl))) pe_int) pa_nil)))) pa_nil)))) pa_nil))))
    (pss_cons (ps_set (i := 8) sc_law_labels.nd rfl (Or.inl rfl) (pe_call G_law_of (hr.mono (by decide)) (by rfl) T.g_law_of k_law_of b_law_of .nil pass0 (pa_cons (pv 0) (pa_cons (pe_lst (pa_cons pe_int (pa_cons (pe_call G_law_take (hr.mono (by decide)) (by rfl) T.g_law_take k_law_take b_law_take .nil pass0 (pa_cons (pv 0) (pa_cons pe_int pa_nil))) (pa_cons (pe_call G_law_take (hr.mono (by decide)) (by rfl) T.g_law_take k_law_take b_law_take .nil pass0 (pa_cons (pv 0) (pa_cons pe_int pa_nil))) (pa_cons pe_int pa_nil))))) pa_nil))))
    (pss_cons (ps_par (i := 13) (j := 14) (by rfl) sc_law_labels.nd rfl rfl (by decide) rfl rfl (pa_cons (pe_op op_sub (pe_call G_law_take (hr.mono (by decide)) (by rfl) T.g_law_take k_law_take b_law_take .nil pass0 (pa_cons (pv 0) (pa_cons pe_int pa_nil))) pe_int) (pa_cons (pe_op op_sub (pe_call G_law_take (hr.mono (by decide)) (by rfl) T.g_law_take k_law_take b_law_take .nil pass0 (pa_cons (pv 0) (pa_cons pe_int pa_nil))) pe_int) pa_nil)) (by rfl))
    (pss_cons (ps_if (pt_cmpR (op_neNil hr.units) (pv 4) (pe_lst pa_nil) (nomark _)) (pss_one (ps_asg (pe_call G_law_step (hr.mono (by decide)) (by rfl) T.g_law_step k_law_step b_law_step .nil pass0 (pa_cons (pv 0) (pa_cons (pv 1) (pa_cons (pe_call G_law_of (hr.mono (by decide)) (by rfl) T.g_law_of k_law_of b_law_of .nil pass0 (pa_cons (pv 0) (pa_cons (pv 4) pa_nil))) (pa_cons (pv 11) (pa_cons (pv 7) pa_nil)))))) (pg_tup rfl (pgs_cons (pg_name (i := 13) sc_law_labels.nd rfl (Or.inl rfl)) (pgs_cons (pg_name (i := 14) sc_law_labels.nd rfl (Or.inl rfl)) pgs_nil))))) pss_nil)
    (pss_cons (ps_set (i := 9) sc_law_labels.nd rfl (Or.inr rfl) (pe_tup (pa_cons (pv 12) (pa_cons (pe_ix ix_tup (pv 6) pe_int (fun _ _ => rfl)) (pa_cons (pv 7) (pa_cons (pv 8) (pa_cons (pv 13) (pa_cons (pv 14) pa_nil))))))))
    (pss_cons (ps_set (i := 10) sc_law_labels.nd rfl (Or.inl rfl) (pe_cmpR op_gt (pe_callB (call_max2 (by rfl)) (by rfl) T.b_max (by decide +kernel) (pa_cons (pe_callTy call_int1 (by rfl) T.b_int boot_int (pa_cons (pe_callB call_abs (by rfl) T.b_abs (by decide +kernel) (pa_cons (pv 13) pa_nil)) pa_nil)) (pa_cons (pe_callTy call_int1 (by rfl) T.b_int boot_int (pa_cons (pe_callB call_abs (by rfl) T.b_abs (by decide +kernel) (pa_cons (pv 14) pa_nil)) pa_nil)) pa_nil))) pe_int (nomark _)))
    (pss_one (ps_if (PW.pt (pw_and (pt_not (pt_val (pv 10))) (pw_and1 (pt_not (pt_val (pe_callB (cr_any rfl) (by rfl) T.b_any (by decide +kernel) (pa_cons (pe_lc (own := [("_law_ahead", 15)]) (g := gName 15) (by rfl) sc_law_labels.nd (pi_list (pv 4)) (blkOk_by (N := n_law_labels) (sc := defScope d_law_labels) (own := [("_law_ahead", 15)]) (by decide +kernel)) (fun _ _ _ _ _ => (pg_name (i := 15) sc_law_labels.nd rfl (Or.inl rfl) (.inr rfl))) (fun _ _ _ _ _ => pts_nil) (fun _ _ _ _ _ => (pe_call G_law_is_near (hr.mono (by decide)) (by rfl) T.g_law_is_near k_law_is_near b_law_is_near .nil pass0 (pa_cons (pv 1) (pa_cons (pv 9) (pa_cons (pv 15) pa_nil)))))) pa_nil))))))) (pss_cons (ps_expr (pe_bm PySem.F.plainAttrs_list PySem.F.slot_list_append PySem.F.type_list_append mt_append (pv 4) (pa_cons (pv 9) pa_nil)))
    (pss_one (ps_expr (pe_bm PySem.F.plainAttrs_list PySem.F.slot_list_append PySem.F.type_list_append mt_append (pv 5) (pa_cons (pv 12) pa_nil))))) pss_nil)))))))))))
    (pss_one (ps_ret (pv 4))))), ?_⟩
  obtain ⟨p, f, mn, lo, rfl, hp, LA, ok, rfl, hmn, q⟩ := h
  have hz1 := ok.z1
  have hz5 := ok.z5
  have hr1 := ok.r1
  have hr4 := ok.r4
  refine ⟨(by show 0 ≤ sizeLine; decide), fun D hD => ⟨(by show 0 ≤ sizeLine; decide), fun N hN => ?_⟩⟩
  have s1 := same_new (o := .lst []) hD
  have s2 := same_new (o := .lst []) hN
  have nD : D ≠ p := hp.ne hD
  have hp1 := hp.same s1
  have nN : N ≠ p := hp1.ne hN
  have hD1 : upd H D (.lst []) D = some (.lst []) := upd_same
  have nDN : D ≠ N := ne_of_none hD1 hN
  have hNn : H N = none := s1.free hN
  have c2 : LbS p D N (f + 40 * mn) H (upd (upd H D (.lst [])) N (.lst [])) lo [] [] := ⟨(Kp.of s1).trans (Kp.of s2), hp1.same s2, s2 _ _ hD1, upd_same, .nil, fun j a hj => absurd hj (Nat.not_lt_zero _)⟩
  generalize upd (upd H D (.lst [])) N (.lst []) = H2 at c2 ⊢
  refine ⟨_, _, rfl, _, rfl, _, rfl, by omega, by omega, ?_⟩
  refine for_it (walk_range (lo := 0) (n := (mn : Int).toNat)) (fun i σ G => ∃ (o3 o6 o7 o8 o9 o10 o11 o12 o13 o14 : Option V) (us : List V) (fs : List Lab), σ = [some (.ref p), some v1, some (.int mn), o3, some (.ref D), some (.ref N), o6, o7, o8, o9, o10, o11, o12, o13, o14, none] ∧ LbS p D N (f + 40 * (mn - i)) H G lo us fs ∧ fs.length ≤ i ∧ (0 < i → 0 < fs.length) ∧ LbB i fs)
    ⟨_, _, _, _, _, _, _, _, _, _, [], [], rfl, c2, Nat.le_refl _, fun z => absurd z (Nat.lt_irrefl _), fun a ha => absurd ha (by simp)⟩ (fun _ _ _ _ _ => trivial) ?_ ?_
  · rintro i y σ Gx G hi ⟨o3, o6, o7, o8, o9, o10, o11, o12, o13, o14, us, fs, rfl, c, hfl, hne, hbd⟩ ⟨rfl, rfl⟩
    obtain ⟨g, hg⟩ : ∃ g, g = f + 40 * (mn - (i + 1)) := ⟨_, rfl⟩
    have hi' : i < mn := by omega
    have hfk : ∀ a ∈ fs, a.kind ∈ names (stL lo) := fun a ha => goodTo_kind c.gd a (by rw [List.take_length]; exact ha)
    have hfL : ∀ a ∈ fs, LabL lo a := fun a ha => by
      obtain ⟨j, hj, e⟩ := List.getElem_of_mem ha
      exact labOk_L ok (canOf_ok (c.gd j a hj (by rw [List.getElem?_eq_getElem hj, e])))
    -- the class and the name
    have LA0 := LA.kp hp c.kp
    obtain ⟨d, B, F', L, rfl, h1, h2, h3, h4⟩ := id LA0
    obtain ⟨cvs, hL, rvL⟩ := id h4
    have hcl : cvs.length = lo.rows.length := by rw [rvL.length, List.length_map]
    refine ⟨_, rfl, _, rfl, d, _, rfl, lg_classes h1, _, cvs.length, rfl, .inl ⟨_, SqL.of hL, rfl⟩, take_q (c.pt.mono (by omega) : Pt p (g + 38 + 1) G) (by omega) (by omega) fun rk G1 rk0 rk1 hp1 k1 => ?_⟩
    have c1 := c.draw nD nN k1 hp1
    obtain ⟨ri, rfl⟩ : ∃ ri : Nat, rk = (ri : Int) := ⟨rk.toNat, by omega⟩
    have hrl : ri < lo.rows.length := by omega
    obtain ⟨r, hri⟩ : ∃ r, lo.rows[ri]? = some r := ⟨_, List.getElem?_eq_getElem hrl⟩
    obtain ⟨q1, q2, q3, q4, q5, q6, q7, q8⟩ := rowOk_iff.mp (ok.rows.ok r (List.mem_of_getElem? hri))
    refine ⟨_, rfl, _, rfl, _, _, rfl, p, N, g + 23, fs.map (·.name), rfl, rfl, c1.pt, c1.nm, nN, by rw [List.length_map]; omega, fun z G2 hz hnew hp2 k2 => ⟨_, _, rfl, ?_⟩⟩
    have c2 := c1.draw nD nN k2 hp2
    have LA2 := LA.kp hp c2.kp
    obtain ⟨d2, B2, F2, L2', e2, h12, h22, h32, h42⟩ := id LA2
    cases e2
    obtain ⟨cvs2, vi, hL2, hvi, rvi⟩ := h42.get hri
    obtain ⟨tr, ur, rfl, htr, hur⟩ := cl_parts rvi
    refine ⟨_, rfl, d, _, rfl, lg_classes h12, _, rfl, L2', _, _, _, rfl, rfl, SqL.of hL2, atI_nat hvi, ?_⟩
    -- letters
    refine ⟨_, rfl, _, rfl, tr, _, _, _, rfl, rfl, SqT.of htr, atI_nat (j := 3) rfl, _, rfl, tr, _, _, _, rfl, rfl, SqT.of htr, atI_nat (j := 2) rfl, _, rfl, tr, _, _, _, rfl, rfl, SqT.of htr, atI_nat (j := 2) rfl, _, rfl, _, rfl, tr, _, _, _, rfl, rfl, SqT.of htr, atI_nat (j := 3) rfl, _, rfl, tr, _, _, _, rfl, rfl, SqT.of htr, atI_nat (j := 2) rfl, _, _, rfl, rfl, _, _, rfl, rfl, take_q c2.pt (by omega) (by omega) fun lj G3 lj0 lj1 hp3 k3 => ⟨_, _, rfl, rfl, (by show 3 ≤ sizeLine; decide), fun S3 hS3 => ?_⟩⟩
    have c3 := c2.draw nD nN k3 hp3
    have s4 := same_new (o := .lst [V.int r.most, V.int r.least, V.int (r.least + lj)]) hS3
    have c4 := c3.same s4
    refine of_q c4.pt (show upd G3 S3 (.lst [V.int r.most, V.int r.least, V.int (r.least + lj)]) S3 = some (.lst ([r.most, r.least, r.least + lj].map V.int)) from upd_same) (c3.pt.ne hS3) (by show 0 < 3; decide) (by show 3 ≤ 1000000; decide) fun u5 G5 hu5 hp5 k5 => ?_
    have c5 := c4.draw nD nN k5 hp5
    obtain ⟨lt, hlt, rfl⟩ := mem_ints hu5
    have hlt' : r.least ≤ lt ∧ lt ≤ r.most := by
      simp only [List.mem_cons, List.not_mem_nil, or_false] at hlt
      omega
    obtain ⟨hlt1, hlt2⟩ := hlt'
    -- weight
    refine ⟨_, rfl, _, rfl, take_q c5.pt (by decide) (by decide) fun w1 G6 w10 w11 hp6 k6 => ?_⟩
    have c6 := c5.draw nD nN k6 hp6
    refine ⟨_, rfl, take_q c6.pt (by decide) (by decide) fun w2 G7 w20 w21 hp7 k7 => ⟨(by show 4 ≤ sizeLine; decide), fun S7 hS7 => ?_⟩⟩
    have c7 := c6.draw nD nN k7 hp7
    have s8 := same_new (o := .lst [V.int 0, V.int w1, V.int w2, V.int 9]) hS7
    have c8 := c7.same s8
    refine of_q c8.pt (show upd G7 S7 (.lst [V.int 0, V.int w1, V.int w2, V.int 9]) S7 = some (.lst ([0, w1, w2, 9].map V.int)) from upd_same) (c7.pt.ne hS7) (by show 0 < 4; decide) (by show 4 ≤ 1000000; decide) fun u9 G9 hu9 hp9 k9 => ?_
    have c9 := c8.draw nD nN k9 hp9
    obtain ⟨wt, hwt, rfl⟩ := mem_ints hu9
    have hwt' : 0 ≤ wt ∧ wt ≤ 9 := by
      simp only [List.mem_cons, List.not_mem_nil, or_false] at hwt
      omega
    obtain ⟨hwt0, hwt9⟩ := hwt'
    -- x, y
    refine ⟨_, rfl, take_q c9.pt (by decide) (by decide) fun x1 GA x10 x11 hpA kA => ⟨_, _, rfl, rfl, ?_⟩⟩
    have cA := c9.draw nD nN kA hpA
    refine ⟨_, rfl, take_q cA.pt (by decide) (by decide) fun y1 GB y10 y11 hpB kB => ⟨_, _, rfl, rfl, _, _, rfl, ?_⟩⟩
    have cB := cA.draw nD nN kB hpB
    refine ⟨_, rfl, (by show 0 ≤ sizeLine; decide), fun e0 he0 => ⟨D, e0, us, rfl, rfl, SqL.of (same_new he0 _ _ cB.ls), upd_same, _, rfl, ?_⟩⟩
    have sBC := same_new (o := .lst []) he0
    have cC := cB.same sBC
    generalize upd GB e0 (.lst []) = GC at sBC cC ⊢
    have n2C : Nl G2 GC := ((((((c2.pt.nl k3).trans (Nl.of s4)).trans (c4.pt.nl k5)).trans (c5.pt.nl k6)).trans (c6.pt.nl k7)).trans (Nl.of s8)).trans ((c8.pt.nl k9).trans ((c9.pt.nl kA).trans ((cA.pt.nl kB).trans (Nl.of sBC))))
    have htrC := n2C.tup htr
    cases hus : us with
    | nil =>
      have hfs : fs = [] := by
        have := labs_len cC.at_
        rw [hus] at this
        exact List.length_eq_zero_iff.mp this.symm
      have cX := cC
      have htrX := htrC
      have hul := labs_len cX.at_
      -- the label
      refine ⟨_, rfl, _, rfl, tr, _, _, _, rfl, rfl, SqT.of htrX, atI_nat (j := 0) rfl, _, rfl, _, rfl, _, rfl, _, rfl, (by show 6 ≤ sizeLine; decide), fun tl htl => ?_⟩
      have sY := same_new (o := .tup [V.str z, V.str r.name, V.int lt, V.int wt, V.int (x1 - 25), V.int (y1 - 25)]) htl
      obtain ⟨lab, elb⟩ : ∃ lab : Lab, lab = ⟨z, r.name, lt, wt, (x1 - 25), (y1 - 25)⟩ := ⟨_, rfl⟩
      have LbY : LabAt (upd GC tl (.tup [V.str z, V.str r.name, V.int lt, V.int wt, V.int (x1 - 25), V.int (y1 - 25)])) (.ref tl) lab := ⟨tl, rfl, by rw [upd_same, elb]; rfl⟩
      have cY := cX.same sY
      have LAY := LA.kp hp cY.kp
      generalize upd GC tl (.tup [V.str z, V.str r.name, V.int lt, V.int wt, V.int (x1 - 25), V.int (y1 - 25)]) = HY at LbY cY LAY ⊢
      have hkind : lab.kind = r.name := by rw [elb]
      have hrk : rkOf (stL lo) lab = ri := by
        show (names (stL lo)).idxOf lab.kind = ri
        rw [hkind]
        exact idx_nd ok.rows.nd (by rw [List.getElem?_map, hri]; rfl)
      have hkd : lab.kind ∈ names (stL lo) := by
        rw [hkind]
        exact List.mem_map.mpr ⟨r, List.mem_of_getElem? hri, rfl⟩
      refine ⟨_, rfl, _, rfl, .inl ⟨_, rfl, _, rfl, _, rfl, .inl ⟨_, rfl, _, _, rfl, _, _, rfl, rfl, ?_⟩⟩⟩
      refine ⟨_, rfl, _, rfl, ?_⟩
      by_cases hout : (99999 : Int) < (if absI (y1 - 25) > absI (x1 - 25) then absI (y1 - 25) else absI (x1 - 25))
      · exfalso
        unfold absI at hout
        split at hout <;> split at hout <;> (try split at hout) <;> omega
      rw [show decide ((99999 : Int) < (if (if (y1 - 25) < 0 then -(y1 - 25) else (y1 - 25)) > (if (x1 - 25) < 0 then -(x1 - 25) else (x1 - 25)) then (if (y1 - 25) < 0 then -(y1 - 25) else (y1 - 25)) else (if (x1 - 25) < 0 then -(x1 - 25) else (x1 - 25)))) = false from decide_eq_false hout]
      have hul := labs_len cY.at_
      simp only [List.set_cons_succ, List.set_cons_zero]
      refine ⟨_, rfl, D, rfl, ⟨_, SqL.of cY.ls⟩, fun D2 hD2 => ?_⟩
      refine lc_fm (walk_list (xs := us)) (fun j => some ((fs[j]?.map fun c => V.bl (decide (gapOf lab c < farOf (stL lo) (rankP (rkOf (stL lo) lab) (rkOf (stL lo) c))))).getD .non)) hD2 (by rw [hul, sizeLine_eq]; omega) (fun H4 s4 => SqL.of (s4 _ _ cY.ls)) ?_ ?_
      · rintro j v H4 H5 Ky Kn hj s4 ⟨rfl, hv⟩ ky kn
        obtain ⟨c, hc, Lc⟩ := labs_get cY.at_ hv
        refine ⟨rfl, _, rfl, _, rfl, _, rfl, _, _, _, rfl, lo, lab, c, LAY.same s4, ok, LbY.same s4, Lc.same s4, hkd, hfk c (List.mem_of_getElem? hc), fun H5 s5 => ky _ _ ?_ s5⟩
        rw [hc]
        rfl
      intro HZ sZ hDZ
      rw [fm_some, hul, map_get fs (fun c => V.bl (decide (gapOf lab c < farOf (stL lo) (rankP (rkOf (stL lo) lab) (rkOf (stL lo) c)))))] at hDZ
      have eZ : fs.map (fun c => V.bl (decide (gapOf lab c < farOf (stL lo) (rankP (rkOf (stL lo) lab) (rkOf (stL lo) c))))) = (fs.map fun c => decide (gapOf lab c < farOf (stL lo) (rankP (rkOf (stL lo) lab) (rkOf (stL lo) c)))).map V.bl := by
        rw [List.map_map]
        rfl
      rw [eZ] at hDZ
      have eW : (fs.map fun c => decide (gapOf lab c < farOf (stL lo) (rankP (rkOf (stL lo) lab) (rkOf (stL lo) c)))).any id = fs.any fun c => decide (gapOf lab c < farOf (stL lo) (rankP (rkOf (stL lo) lab) (rkOf (stL lo) c))) := by
        rw [List.any_map]
        rfl
      have cZ := cY.same sZ
      refine ⟨D2, _, rfl, SqL.of hDZ, _, rfl, ?_⟩
      rw [eW]
      cases hany : fs.any fun c => decide (gapOf lab c < farOf (stL lo) (rankP (rkOf (stL lo) lab) (rkOf (stL lo) c))) with
      | true =>
        rw [hfs] at hany
        cases hany
      | false =>
        have hcan : canOf (stL lo) fs lab = true := canOf_new (r := r) (by omega) (by rw [elb]; exact hz) (by rw [hrk]; exact hri) hkd (by rw [elb]; exact hlt1) (by rw [elb]; exact hlt2) (by rw [elb]; exact hwt0) (by rw [elb]; exact hwt9) (by rw [elb]; exact hout) (by rw [elb]; exact hnew) hany
        refine ⟨_, rfl, .inl ⟨rfl, _, SqL.of cZ.ls⟩, _, rfl, D, us, _, rfl, rfl, cZ.ls, by rw [hul, sizeLine_eq]; omega, ?_⟩
        have hN1 : upd HZ D (.lst (us ++ [V.ref tl])) N = some (.lst ((fs.map (·.name)).map V.str)) := by
          rw [upd_ne (Ne.symm nDN)]
          exact cZ.nm
        refine ⟨_, rfl, .inl ⟨rfl, _, SqL.of hN1⟩, _, rfl, N, _, _, rfl, rfl, hN1, by rw [List.length_map, List.length_map, sizeLine_eq]; omega, ?_⟩
        have nlZ : Nl HZ (upd (upd HZ D (.lst (us ++ [V.ref tl]))) N (.lst ((fs.map (·.name)).map V.str ++ [V.str z]))) := (Nl.lst cZ.ls).trans (Nl.lst hN1)
        refine ⟨_, _, _, _, _, _, _, _, _, _, us ++ [V.ref tl], fs ++ [lab], rfl, ⟨fun b o hb e => ?_, ((cZ.pt.mono (by omega) : Pt p (f + 40 * (mn - (i + 1))) HZ).upd nD).upd nN, ?_, ?_, ?_, goodTo_snoc cZ.gd hcan⟩, by rw [List.length_append, List.length_singleton]; omega, fun _ => by rw [List.length_append, List.length_singleton]; omega, hbd.snoc (by rw [elb]; show lt ≤ 12; omega) (by rw [elb]; show absI (x1 - 25) ≤ _; unfold absI; split <;> omega) (by rw [elb]; show absI (y1 - 25) ≤ _; unfold absI; split <;> omega)⟩
        · rw [upd_ne (ne_of_none e hNn), upd_ne (ne_of_none e hD)]
          exact cZ.kp _ _ hb e
        · rw [upd_ne nDN, upd_same]
        · rw [upd_same, List.map_append, List.map_append, elb]
          rfl
        · exact labs_app (cZ.at_.nl nlZ) (.cons ((LbY.same sZ).nl nlZ) .nil)
    | cons u0 ur0 =>
      have hlu := labs_len cC.at_
      have hup : 0 < us.length := by
        rw [hus]
        exact Nat.succ_pos _
      refine ⟨_, rfl, _, rfl, _, rfl, _, rfl, of_q cC.pt cC.ls nD hup (by omega) fun u HD hu hpD kD => ?_⟩
      have cD := cC.draw nD nN kD hpD
      obtain ⟨j, hj, ej⟩ := List.getElem_of_mem hu
      obtain ⟨la, hla, La⟩ := labs_get cD.at_ (i := j) (v := u) (by rw [List.getElem?_eq_getElem hj, ej])
      refine ⟨_, rfl, _, rfl, _, _, _, _, _, rfl, p, g + 8, lo, la, ri, r, lt, rfl, cD.pt, LA.kp hp cD.kp, ok, La, hfL la (List.mem_of_getElem? hla), rfl, hri, rfl, by omega, by omega, fun ax ay HX t hpX kX hst ht => ⟨t, _, rfl, SqT.of ht, rfl, _, _, rfl, _, _, rfl, rfl, ?_⟩⟩
      have cX := cD.draw nD nN kX hpX
      have hst2 := hst (hbd la (List.mem_of_getElem? hla)).1 (by omega)
      have htrX := ((n2C.trans (cC.pt.nl kD)).trans (cD.pt.nl kX)).tup htr
      -- the label
      refine ⟨_, rfl, _, rfl, tr, _, _, _, rfl, rfl, SqT.of htrX, atI_nat (j := 0) rfl, _, rfl, _, rfl, _, rfl, _, rfl, (by show 6 ≤ sizeLine; decide), fun tl htl => ?_⟩
      have sY := same_new (o := .tup [V.str z, V.str r.name, V.int lt, V.int wt, V.int ax, V.int ay]) htl
      obtain ⟨lab, elb⟩ : ∃ lab : Lab, lab = ⟨z, r.name, lt, wt, ax, ay⟩ := ⟨_, rfl⟩
      have LbY : LabAt (upd HX tl (.tup [V.str z, V.str r.name, V.int lt, V.int wt, V.int ax, V.int ay])) (.ref tl) lab := ⟨tl, rfl, by rw [upd_same, elb]; rfl⟩
      have cY := cX.same sY
      have LAY := LA.kp hp cY.kp
      generalize upd HX tl (.tup [V.str z, V.str r.name, V.int lt, V.int wt, V.int ax, V.int ay]) = HY at LbY cY LAY ⊢
      have hkind : lab.kind = r.name := by rw [elb]
      have hrk : rkOf (stL lo) lab = ri := by
        show (names (stL lo)).idxOf lab.kind = ri
        rw [hkind]
        exact idx_nd ok.rows.nd (by rw [List.getElem?_map, hri]; rfl)
      have hkd : lab.kind ∈ names (stL lo) := by
        rw [hkind]
        exact List.mem_map.mpr ⟨r, List.mem_of_getElem? hri, rfl⟩
      refine ⟨_, rfl, _, rfl, .inl ⟨_, rfl, _, rfl, _, rfl, .inl ⟨_, rfl, _, _, rfl, _, _, rfl, rfl, ?_⟩⟩⟩
      refine ⟨_, rfl, _, rfl, ?_⟩
      by_cases hout : (99999 : Int) < (if absI ay > absI ax then absI ay else absI ax)
      · rw [show decide ((99999 : Int) < (if (if ay < 0 then -ay else ay) > (if ax < 0 then -ax else ax) then (if ay < 0 then -ay else ay) else (if ax < 0 then -ax else ax))) = true from decide_eq_true hout]
        exact ⟨_, _, _, _, _, _, _, _, _, _, us, fs, rfl, ⟨cY.kp, cY.pt.mono (by omega), cY.ls, cY.nm, cY.at_, cY.gd⟩, by omega, fun _ => by omega, hbd.mono (Nat.le_succ _)⟩
      rw [show decide ((99999 : Int) < (if (if ay < 0 then -ay else ay) > (if ax < 0 then -ax else ax) then (if ay < 0 then -ay else ay) else (if ax < 0 then -ax else ax))) = false from decide_eq_false hout]
      have hul := labs_len cY.at_
      simp only [List.set_cons_succ, List.set_cons_zero]
      refine ⟨_, rfl, D, rfl, ⟨_, SqL.of cY.ls⟩, fun D2 hD2 => ?_⟩
      refine lc_fm (walk_list (xs := us)) (fun j => some ((fs[j]?.map fun c => V.bl (decide (gapOf lab c < farOf (stL lo) (rankP (rkOf (stL lo) lab) (rkOf (stL lo) c))))).getD .non)) hD2 (by rw [hul, sizeLine_eq]; omega) (fun H4 s4 => SqL.of (s4 _ _ cY.ls)) ?_ ?_
      · rintro j v H4 H5 Ky Kn hj s4 ⟨rfl, hv⟩ ky kn
        obtain ⟨c, hc, Lc⟩ := labs_get cY.at_ hv
        refine ⟨rfl, _, rfl, _, rfl, _, rfl, _, _, _, rfl, lo, lab, c, LAY.same s4, ok, LbY.same s4, Lc.same s4, hkd, hfk c (List.mem_of_getElem? hc), fun H5 s5 => ky _ _ ?_ s5⟩
        rw [hc]
        rfl
      intro HZ sZ hDZ
      rw [fm_some, hul, map_get fs (fun c => V.bl (decide (gapOf lab c < farOf (stL lo) (rankP (rkOf (stL lo) lab) (rkOf (stL lo) c)))))] at hDZ
      have eZ : fs.map (fun c => V.bl (decide (gapOf lab c < farOf (stL lo) (rankP (rkOf (stL lo) lab) (rkOf (stL lo) c))))) = (fs.map fun c => decide (gapOf lab c < farOf (stL lo) (rankP (rkOf (stL lo) lab) (rkOf (stL lo) c)))).map V.bl := by
        rw [List.map_map]
        rfl
      rw [eZ] at hDZ
      have eW : (fs.map fun c => decide (gapOf lab c < farOf (stL lo) (rankP (rkOf (stL lo) lab) (rkOf (stL lo) c)))).any id = fs.any fun c => decide (gapOf lab c < farOf (stL lo) (rankP (rkOf (stL lo) lab) (rkOf (stL lo) c))) := by
        rw [List.any_map]
        rfl
      have cZ := cY.same sZ
      refine ⟨D2, _, rfl, SqL.of hDZ, _, rfl, ?_⟩
      rw [eW]
      cases hany : fs.any fun c => decide (gapOf lab c < farOf (stL lo) (rankP (rkOf (stL lo) lab) (rkOf (stL lo) c))) with
      | true => exact ⟨_, _, _, _, _, _, _, _, _, _, us, fs, rfl, ⟨cZ.kp, cZ.pt.mono (by omega), cZ.ls, cZ.nm, cZ.at_, cZ.gd⟩, by omega, fun _ => by omega, hbd.mono (Nat.le_succ _)⟩
      | false =>
        have hcan : canOf (stL lo) fs lab = true := canOf_new (r := r) (by omega) (by rw [elb]; exact hz) (by rw [hrk]; exact hri) hkd (by rw [elb]; exact hlt1) (by rw [elb]; exact hlt2) (by rw [elb]; exact hwt0) (by rw [elb]; exact hwt9) (by rw [elb]; exact hout) (by rw [elb]; exact hnew) hany
        refine ⟨_, rfl, .inl ⟨rfl, _, SqL.of cZ.ls⟩, _, rfl, D, us, _, rfl, rfl, cZ.ls, by rw [hul, sizeLine_eq]; omega, ?_⟩
        have hN1 : upd HZ D (.lst (us ++ [V.ref tl])) N = some (.lst ((fs.map (·.name)).map V.str)) := by
          rw [upd_ne (Ne.symm nDN)]
          exact cZ.nm
        refine ⟨_, rfl, .inl ⟨rfl, _, SqL.of hN1⟩, _, rfl, N, _, _, rfl, rfl, hN1, by rw [List.length_map, List.length_map, sizeLine_eq]; omega, ?_⟩
        have nlZ : Nl HZ (upd (upd HZ D (.lst (us ++ [V.ref tl]))) N (.lst ((fs.map (·.name)).map V.str ++ [V.str z]))) := (Nl.lst cZ.ls).trans (Nl.lst hN1)
        refine ⟨_, _, _, _, _, _, _, _, _, _, us ++ [V.ref tl], fs ++ [lab], rfl, ⟨fun b o hb e => ?_, ((cZ.pt.mono (by omega) : Pt p (f + 40 * (mn - (i + 1))) HZ).upd nD).upd nN, ?_, ?_, ?_, goodTo_snoc cZ.gd hcan⟩, by rw [List.length_append, List.length_singleton]; omega, fun _ => by rw [List.length_append, List.length_singleton]; omega, hbd.snoc (by rw [elb]; show lt ≤ 12; omega) (by rw [elb]; exact abs_step hst2.1 (hbd la (List.mem_of_getElem? hla)).2.1) (by rw [elb]; exact abs_step hst2.2 (hbd la (List.mem_of_getElem? hla)).2.2)⟩
        · rw [upd_ne (ne_of_none e hNn), upd_ne (ne_of_none e hD)]
          exact cZ.kp _ _ hb e
        · rw [upd_ne nDN, upd_same]
        · rw [upd_same, List.map_append, List.map_append, elb]
          rfl
        · exact labs_app (cZ.at_.nl nlZ) (.cons ((LbY.same sZ).nl nlZ) .nil)
  · rintro σ G ⟨o3, o6, o7, o8, o9, o10, o11, o12, o13, o14, us, fs, rfl, c, hfl, hne, hbd⟩
    exact ⟨_, rfl, q D us fs G hD nD c.kp (c.pt.mono (by omega)) c.ls c.at_ c.gd (by omega) (fun z => hne (by omega)) (by rw [show (mn : Int).toNat = mn by omega] at hbd; exact hbd)⟩
end
end SK
set_option maxHeartbeats 4000000
namespace SL
open PySem PySem.Spec PyProof.Rows L2
theorem ext_of {α : Type} {R : α → α → Prop} (as : ∀ x y, R x y → ¬ R y x) : ∀ {a b : List α}, a.Pairwise R → b.Pairwise R → (∀ k, k ∈ a ↔ k ∈ b) → a = b
  | [], [], _, _, _ => rfl
  | [], y :: b, _, _, h => absurd ((h y).mpr List.mem_cons_self) List.not_mem_nil
  | x :: a, [], _, _, h => absurd ((h x).mp List.mem_cons_self) List.not_mem_nil
  | x :: a, y :: b, ha, hb, h => by
    obtain ⟨a1, a2⟩ := List.pairwise_cons.mp ha
    obtain ⟨b1, b2⟩ := List.pairwise_cons.mp hb
    have e : x = y := by
      rcases List.mem_cons.mp ((h x).mp List.mem_cons_self) with e | e
      · exact e
      · rcases List.mem_cons.mp ((h y).mpr List.mem_cons_self) with e2 | e2
        · exact e2.symm
        · exact absurd (a1 _ e2) (as _ _ (b1 _ e))
    subst e
    refine congrArg (x :: ·) (ext_of as a2 b2 fun k => ⟨fun hk => ?_, fun hk => ?_⟩)
    · rcases List.mem_cons.mp ((h k).mp (List.mem_cons_of_mem _ hk)) with e | e
      · subst e
        exact absurd (a1 _ hk) (as _ _ (a1 _ hk))
      · exact e
    · rcases List.mem_cons.mp ((h k).mpr (List.mem_cons_of_mem _ hk)) with e | e
      · subst e
        exact absurd (b1 _ hk) (as _ _ (b1 _ hk))
      · exact e
def ltS (x y : Str) : Prop := x.cps.toList < y.cps.toList
theorem rising_pw : ∀ {l : List Str} {p : Str}, risingS p l = true → (p :: l).Nodup → (p :: l).Pairwise ltS
  | [], p, _, _ => List.pairwise_singleton _ _
  | x :: r, p, h, nd => by
    have h : (!ltCps x.cps.toList p.cps.toList && risingS x r) = true := h
    rw [Bool.and_eq_true, Bool.not_eq_true', ltCps_eq] at h
    obtain ⟨n1, n2⟩ := List.nodup_cons.mp nd
    have pw := rising_pw h.2 n2
    have hx : ltS p x := by
      have ne : (Sum.inr p : Key) ≠ Sum.inr x := fun e => n1 (by rw [Sum.inr.inj e]; simp)
      rcases kLt_tri ne with c | c
      · have c : decide (p.cps.toList < x.cps.toList) = true := c
        exact (of_decide_eq_true c : p.cps.toList < x.cps.toList)
      · have c : decide (x.cps.toList < p.cps.toList) = true := c
        exact absurd (of_decide_eq_true c) (of_decide_eq_false h.1)
    refine List.pairwise_cons.mpr ⟨fun y hy => ?_, pw⟩
    rcases List.mem_cons.mp hy with e | e
    · rw [e]
      exact hx
    · exact List.lt_trans hx ((List.pairwise_cons.mp pw).1 y e)
theorem sorted_pw {l : List Str} (h : sortedS l = true) (nd : l.Nodup) : l.Pairwise ltS := by
  cases l with
  | nil => exact List.Pairwise.nil
  | cons x r => exact rising_pw h nd
def NmOf (ys : List Str) (ls : List Lab) : Prop := ys.Nodup ∧ (∀ y, y ∈ ys ↔ y ∈ ls.map (·.name)) ∧ sortedS ys = true
theorem NmOf.one {ys zs : List Str} {ls : List Lab} (a : NmOf ys ls) (b : NmOf zs ls) : ys = zs :=
  ext_of (R := ltS) (fun _ _ h => List.lt_asymm h) (sorted_pw a.2.2 a.1) (sorted_pw b.2.2 b.1) fun k => (a.2.1 k).trans (b.2.1 k).symm
end SL
namespace SK
open PySem PySem.Spec PyProof.Rows L2 SL
section
variable {w : World} {K : PySem.W.Frag} {mg : Str → Option Value} {base : Heap}
end
end SK
set_option maxHeartbeats 4000000
namespace SL
open PySem PySem.Spec PyProof.Rows L2
end SL
namespace SK
open PySem PySem.Spec PyProof.Rows L2 SL
section
variable {w : World} {K : PySem.W.Frag} {mg : Str → Option Value} {base : Heap}
theorem sheet_q {H : Hp} {Q : VK} {E : XK} {a dx t0 : Addr} {sv : V} {x : Str} {st : RSt} {vs : List V} {ls : List Lab} (S : StAt K H sv x st) (h0 : H t0 = some (.tup vs)) (hL : LabsAt H vs ls) (hn : ∀ a ∈ ls, a.name.length ≤ 1000) (hl : ls.length ≤ 30) (g : goodTo st ls ls.length) (ha : H a = none) (hdx : H dx = none) (hne : dx ≠ a)
    (k : ∀ (H' : Hp) (ls' : List Lab), Same H H' → ShAt K H' (.ref a) sv x st ls' → ls'.Perm ls → inOrd st ls' → Q .non H') :
    spSheetInit K (.ref a :: ([sv, .ref t0] ++ [])) (upd (upd H dx (.own a)) a (.ins (He.ga K "Sheet") dx [])) Q E := by
  refine ⟨_, _, _, rfl, a, dx, x, st, t0, vs, ls, H, rfl, upd_same, ha, fun b o hb => ?_, S, rfl, h0, hL, hn, by omega, fun z => absurd z (by omega), fun _ => ⟨fun _ => k, fun i b _ hb hc => ?_⟩⟩
  · rw [upd_ne (ne_of_none hb ha), upd_ne (ne_of_none hb hdx)]
    exact hb
  · rw [g i b (List.getElem?_eq_some_iff.mp hb).1 hb] at hc
    cases hc
end
end SK
set_option maxHeartbeats 4000000
namespace SL
open PySem PySem.Spec PyProof.Rows L2
def kept1 (ns : List Str) (ls : List Lab) : List Lab := ls.filter (fun a => decide (a.name ∈ ns)) ++ ls.filter (fun a => decide (a.name ∉ ns))
def prv (yss : List (List Str)) : Nat → List Str
  | 0 => []
  | j + 1 => (yss[j]?).getD []
def ZmTo (st : RSt) (ls : List Lab) (zs : List Int) (yss : List (List Str)) : Prop := ∀ (j : Nat) (z : Int) (ys : List Str), zs[j]? = some z → yss[j]? = some ys → NmOf ys (lookOf st z [] (kept1 (prv yss j) ls))
theorem ZmTo.one {st : RSt} {ls : List Lab} {zs : List Int} {a b : List (List Str)} (ha : ZmTo st ls zs a) (hb : ZmTo st ls zs b) (la : a.length = zs.length) (lb : b.length = zs.length) : a = b := by
  have key : ∀ j : Nat, a[j]? = b[j]? := by
    intro j
    induction j with
    | zero =>
      cases e : zs with
      | nil =>
        have h1 : a = [] := List.length_eq_zero_iff.mp (by rw [la, e]; rfl)
        have h2 : b = [] := List.length_eq_zero_iff.mp (by rw [lb, e]; rfl)
        rw [h1, h2]
      | cons z r =>
        have h0 : 0 < zs.length := by rw [e]; exact Nat.succ_pos _
        have h1 := List.getElem?_eq_getElem (l := a) (i := 0) (by omega)
        have h2 := List.getElem?_eq_getElem (l := b) (i := 0) (by omega)
        have h3 : zs[0]? = some z := by rw [e]; rfl
        rw [h1, h2]
        exact congrArg some ((ha 0 z _ h3 h1).one (hb 0 z _ h3 h2))
    | succ j ih =>
      by_cases hj : j + 1 < zs.length
      · have h1 := List.getElem?_eq_getElem (l := a) (i := j + 1) (by omega)
        have h2 := List.getElem?_eq_getElem (l := b) (i := j + 1) (by omega)
        have h3 := List.getElem?_eq_getElem (l := zs) (i := j + 1) hj
        rw [h1, h2]
        have e1 := ha (j + 1) _ _ h3 h1
        have e2 := hb (j + 1) _ _ h3 h2
        rw [show prv a (j + 1) = prv b (j + 1) by show (a[j]?).getD [] = (b[j]?).getD []; rw [ih]] at e1
        exact congrArg some (e1.one e2)
      · rw [List.getElem?_eq_none (by omega), List.getElem?_eq_none (by omega)]
  exact List.ext_getElem? key
theorem ZmTo.snoc {st : RSt} {ls : List Lab} {zs : List Int} {yss : List (List Str)} {z : Int} {ys : List Str} (h : ZmTo st ls zs yss) (hz : zs[yss.length]? = some z) (hy : NmOf ys (lookOf st z [] (kept1 (prv yss yss.length) ls))) : ZmTo st ls zs (yss ++ [ys]) := fun j z' y' h1 h2 => by
  have same : ∀ j : Nat, j ≤ yss.length → prv (yss ++ [ys]) j = prv yss j := fun j hj => by
    cases j with
    | zero => rfl
    | succ j =>
      show ((yss ++ [ys])[j]?).getD [] = (yss[j]?).getD []
      rw [List.getElem?_append_left (by omega)]
  by_cases e : j < yss.length
  · rw [List.getElem?_append_left e] at h2
    rw [same j (by omega)]
    exact h j z' y' h1 h2
  · have hj : j = yss.length := by
      have := (List.getElem?_eq_some_iff.mp h2).1
      rw [List.length_append, List.length_singleton] at this
      omega
    subst hj
    rw [hz] at h1
    cases h1
    rw [List.getElem?_append_right (Nat.le_refl _), Nat.sub_self] at h2
    cases h2
    rw [same _ (Nat.le_refl _)]
    exact hy
end SL
namespace SK
open PySem PySem.Spec PyProof.Rows L2 SL
section
variable {w : World} {K : PySem.W.Frag} {mg : Str → Option Value} {base : Heap}
end
end SK
set_option maxHeartbeats 4000000
namespace SL
open PySem PySem.Spec PyProof.Rows L2
theorem gap_comm2 (a b : Lab) : gapOf a b = gapOf b a := by
  have e : ∀ x y : Int, absI (x - y) = absI (y - x) := fun x y => by
    unfold absI
    split <;> split <;> omega
  unfold gapOf
  rw [e a.x b.x, e a.y b.y]
theorem rankP_comm2 (i j : Nat) : rankP i j = rankP j i := by
  unfold rankP
  split <;> split <;> first | rfl | (have : i = j := by omega); subst this; rfl | omega
theorem near_comm (st : RSt) (a b : Lab) : nearOf st a b = nearOf st b a := by
  unfold nearOf
  rw [gap_comm2, rankP_comm2]
  have e : decide (a.name = b.name) = decide (b.name = a.name) := decide_eq_decide.mpr ⟨Eq.symm, Eq.symm⟩
  rw [e]
structure Gd (st : RSt) (ls : List Lab) : Prop where
  len : ls.length ≤ 30
  ok : ∀ a ∈ ls, labOk st a = true
  far : ls.Pairwise (fun a b => nearOf st a b = false)
theorem Gd.of {st : RSt} {ls : List Lab} (g : goodTo st ls ls.length) (hl : ls.length ≤ 30) : Gd st ls := by
  refine ⟨hl, fun a ha => ?_, List.pairwise_iff_getElem.mpr fun i j hi hj hij => goodTo_far g hij hj (List.getElem?_eq_getElem hi) (List.getElem?_eq_getElem hj)⟩
  obtain ⟨i, hi, rfl⟩ := List.getElem_of_mem ha
  exact canOf_ok (g i _ hi (List.getElem?_eq_getElem hi))
theorem Gd.good {st : RSt} {ls : List Lab} (g : Gd st ls) : goodTo st ls ls.length := by
  intro j a hj ha
  unfold canOf
  rw [Bool.and_eq_true, Bool.and_eq_true, List.all_eq_true]
  have h1 := g.len
  refine ⟨decide_eq_true (by rw [List.length_take]; omega), g.ok a (List.mem_of_getElem? ha), fun c hc => ?_⟩
  obtain ⟨i, hi, e⟩ := List.getElem_of_mem hc
  rw [List.length_take] at hi
  rw [List.getElem_take] at e
  have e2 := (List.getElem?_eq_some_iff.mp ha)
  obtain ⟨hj2, e2⟩ := e2
  have := List.pairwise_iff_getElem.mp g.far i j (by omega) hj2 (by omega)
  rw [← e, ← e2, this]
  rfl
theorem Gd.perm {st : RSt} {ls ms : List Lab} (g : Gd st ls) (p : ms.Perm ls) : Gd st ms :=
  ⟨by rw [p.length_eq]; exact g.len, fun a ha => g.ok a (p.mem_iff.mp ha), (p.pairwise_iff (fun {a b} h => by rw [near_comm]; exact h)).mpr g.far⟩
theorem Gd.sub {st : RSt} {ls ms : List Lab} (g : Gd st ls) (p : ms.Sublist ls) : Gd st ms :=
  ⟨Nat.le_trans p.length_le g.len, fun a ha => g.ok a (p.subset ha), g.far.sublist p⟩
theorem Gd.nd {st : RSt} {ls : List Lab} (g : Gd st ls) : (ls.map (·.name)).Nodup := goodTo_nd g.good
theorem labOk_name {st : RSt} {a : Lab} (h : labOk st a = true) : isName a.name = true := by
  unfold labOk at h
  rw [Bool.and_eq_true] at h
  exact h.1
theorem Gd.nl {st : RSt} {ls : List Lab} (g : Gd st ls) : ∀ a ∈ ls, a.name.length ≤ 1000 := fun a ha => Nat.le_trans (name_len (labOk_name (g.ok a ha))) (by decide)
end SL
set_option maxHeartbeats 4000000
namespace SL
open PySem PySem.Spec PyProof.Rows L2
section
variable {X : Cx} {CX : CXT} {C g : Addr} {n : Nat} {sp : Sp} {E : XK}
end
end SL
set_option maxHeartbeats 4000000
namespace SK
open PySem PySem.Spec PyProof.Rows L2 SL
section
variable {w : World} {K : PySem.W.Frag} {mg : Str → Option Value} {base : Heap}
end
end SK
set_option maxHeartbeats 4000000
namespace SL
open PySem PySem.Spec PyProof.Rows L2 TL
theorem starts_minus (z : Str) : Txt.startswith z "-" = decide ((tl z).head? = some 45) := by
  unfold Txt.startswith
  rw [PySem.StrLaws.subAt_eq]
  have e1 : ("-" : Str).length = 1 := by decide +kernel
  have e2 : ("-" : Str).cps.toList = [45] := by decide +kernel
  rw [e1, e2, TL.len_tl]
  show (decide (0 + 1 ≤ (tl z).length) && (((tl z).drop 0).take 1 == [45])) = _
  cases tl z with
  | nil => rfl
  | cons c r =>
    simp only [List.length_cons, List.drop_zero, List.take_succ_cons, List.take_zero, List.head?_cons, Option.some.injEq]
    by_cases h : c = 45
    · subst h
      simp
    · rw [decide_eq_false h]
      simp [h]
def signedIn (z : Str) : Option Int := if Txt.startswith z "-" = true then (wholeIn (cutS z (some 1) none)).bind (fun n => if n = 0 then none else some (-n)) else wholeIn z
theorem tl_neg (m : Nat) : tl (numS (Int.negSucc m)) = 45 :: numL (m + 1) := by
  have h1 : tl (numS (Int.negSucc m)) = (toString (Int.negSucc m)).toList.map Char.toNat := tl_ofString _
  have h2 : numL (m + 1) = (toString (m + 1)).toList.map Char.toNat := by
    rw [← tl_num (m + 1)]
    exact tl_ofString _
  rw [h1, h2]
  show ("-" ++ toString (m + 1)).toList.map Char.toNat = _
  rw [String.toList_append, List.map_append]
  rfl
theorem cut_one (z : Str) : tl (cutS z (some 1) none) = (tl z).drop 1 := by
  show ((((tl z).drop (HT.sIx z.length 0 (some ((1 : Nat) : Int)))).take (z.length - HT.sIx z.length 0 (some ((1 : Nat) : Int)))).toArray).toList = _
  rw [HT.sIx_nat, List.toList_toArray, TL.len_tl]
  cases tl z with
  | nil => rfl
  | cons c r => simp
theorem signed_num {i : Int} (h : absI i < 10 ^ 8) : signedIn (numS i) = some i := by
  unfold absI at h
  cases i with
  | ofNat n =>
    have e : tl (numS (Int.ofNat n)) = numL n := tl_num n
    have hn : n < 10 ^ 9 := by
      rw [show Int.ofNat n = ((n : Nat) : Int) from rfl] at h
      split at h <;> omega
    unfold signedIn
    rw [starts_minus, e, if_neg]
    · exact (num_ok (n := ((n : Nat) : Int)) (by omega) (by omega)).1
    · intro z
      have z := of_decide_eq_true z
      cases e2 : numL n with
      | nil => rw [e2] at z; cases z
      | cons c r =>
        rw [e2] at z
        have := (numL_digits n c (by rw [e2]; simp)).1
        have : c = 45 := Option.some.inj z
        omega
  | negSucc m =>
    have hm : m + 1 < 10 ^ 9 := by split at h <;> omega
    have ec : cutS (numS (Int.negSucc m)) (some 1) none = numS ((m + 1 : Nat) : Int) := ext_tl (by
      rw [cut_one, tl_neg]
      exact (tl_num (m + 1)).symm)
    unfold signedIn
    rw [starts_minus, tl_neg, if_pos (by simp), ec, (num_ok (n := ((m + 1 : Nat) : Int)) (by omega) (by omega)).1]
    show (if ((m + 1 : Nat) : Int) = 0 then none else some (-((m + 1 : Nat) : Int))) = _
    rw [if_neg (by omega)]
    rfl
theorem num_dig {i : Int} : ∀ c ∈ tl (numS i), c = 45 ∨ (48 ≤ c ∧ c ≤ 57) := fun c hc => by
  cases i with
  | ofNat n =>
    rw [show tl (numS (Int.ofNat n)) = numL n from tl_num n] at hc
    exact .inr ⟨(numL_digits n c hc).1, (numL_digits n c hc).2⟩
  | negSucc m =>
    rw [tl_neg] at hc
    rcases List.mem_cons.mp hc with rfl | hc
    · exact .inl rfl
    · exact .inr ⟨(numL_digits _ c hc).1, (numL_digits _ c hc).2⟩
theorem num_clean (i : Int) : clean (numS i) := ⟨fun h => by have := num_dig _ h; omega, fun h => by have := num_dig _ h; omega⟩
theorem num_len {i : Int} (h : absI i < 10 ^ 8) : (numS i).length ≤ 12 := by
  unfold absI at h
  rw [TL.len_tl]
  cases i with
  | ofNat n =>
    rw [show tl (numS (Int.ofNat n)) = numL n from tl_num n]
    rw [show Int.ofNat n = ((n : Nat) : Int) from rfl] at h
    exact Nat.le_trans (numL_len (by decide) (by split at h <;> omega) : (numL n).length ≤ 9) (by decide)
  | negSucc m =>
    rw [tl_neg, List.length_cons]
    have : (numL (m + 1)).length ≤ 9 := numL_len (by decide) (by split at h <;> omega)
    omega
def lwOf (a : Lab) : List Str := [a.name, a.kind, numS a.letters, numS a.weight, numS a.x, numS a.y]
structure LbG (a : Lab) : Prop where
  nm : isName a.name = true
  kd : isName a.kind = true
  le : absI a.letters < 10 ^ 8
  we : absI a.weight < 10 ^ 8
  x : absI a.x < 10 ^ 8
  y : absI a.y < 10 ^ 8
def tellOf (ws : List Str) : Option Lab := match ws with
  | [a, b, c, d, e, f] => match signedIn c, signedIn d, signedIn e, signedIn f with
    | some c, some d, some e, some f => some ⟨a, b, c, d, e, f⟩
    | _, _, _, _ => none
  | _ => none
theorem tell_lw {a : Lab} (h : LbG a) : tellOf (lwOf a) = some a := by
  unfold lwOf tellOf
  dsimp only
  rw [signed_num h.le, signed_num h.we, signed_num h.x, signed_num h.y]
theorem lw_clean {a : Lab} (h : LbG a) : ∀ w ∈ lwOf a, clean w := fun w hw => by
  simp only [lwOf, List.mem_cons, List.not_mem_nil, or_false] at hw
  rcases hw with rfl | rfl | rfl | rfl | rfl | rfl
  · exact clean_name h.nm
  · exact clean_name h.kd
  all_goals exact num_clean _
theorem lw_short {a : Lab} (h : LbG a) : ∀ w ∈ lwOf a, w.length ≤ 12 := fun w hw => by
  simp only [lwOf, List.mem_cons, List.not_mem_nil, or_false] at hw
  rcases hw with rfl | rfl | rfl | rfl | rfl | rfl
  · exact name_len h.nm
  · exact name_len h.kd
  · exact num_len h.le
  · exact num_len h.we
  · exact num_len h.x
  · exact num_len h.y
theorem lw_split {a : Lab} (h : LbG a) : Txt.split (lineOf (lwOf a)) " " = lwOf a := line_split (by simp [lwOf]) (lw_clean h)
theorem lw_len {a : Lab} (h : LbG a) : (lineOf (lwOf a)).length ≤ 78 := by
  refine Nat.le_trans (join_len (B := 12) (lw_short h)) ?_
  have : (" " : Str).length = 1 := by decide +kernel
  rw [this]
  show 6 * (12 + 1) ≤ 78
  decide
theorem split_empty : Txt.split ("" : Str) "\n" = [("" : Str)] ∧ Txt.split ("" : Str) " " = [("" : Str)] := by decide +kernel
theorem lb_good {lo : Lore} (ok : LoreOk lo) {a : Lab} (h : labOk (stL lo) a = true) : LbG a := by
  have hL := labOk_L ok h
  obtain ⟨r, hr, er⟩ := List.mem_map.mp hL.kd
  have l0 := hL.l0
  have l1 := hL.l1
  unfold labOk at h
  rw [Bool.and_eq_true, Bool.and_eq_true] at h
  obtain ⟨h1, _, h3⟩ := h
  have hkd : isName a.kind = true := by
    rw [← er]
    exact (rowOk_iff.mp (ok.rows.ok r hr)).1
  cases e : rowAt (stL lo) a with
  | none =>
    rw [e] at h3
    cases h3
  | some r2 =>
    rw [e] at h3
    simp only [inR, Bool.and_eq_true, decide_eq_true_eq] at h3
    obtain ⟨_, ⟨w0, w1⟩, ⟨x0, x1⟩, y0, y1⟩ := h3
    exact ⟨h1, hkd, by unfold absI; split <;> omega, by unfold absI; split <;> omega, by unfold absI; split <;> omega, by unfold absI; split <;> omega⟩
end SL
set_option maxHeartbeats 4000000
namespace SL
open PySem PySem.Spec PyProof.Rows L2
theorem tell_no {ws : List Str} (h : ws.length ≠ 6) : tellOf ws = none := by
  unfold tellOf
  split
  · exact absurd rfl h
  · rfl
theorem tell_name {ws : List Str} {a : Lab} (h : tellOf ws = some a) : a.name ∈ ws := by
  unfold tellOf at h
  split at h
  · split at h
    · cases h
      simp
    · cases h
  · cases h
def linesIn (z : Str) : List Str := if z = "" then [] else Txt.split z "\n"
def rdTo (st : RSt) (lines : List Str) (ls : List Lab) : Prop := ∀ (i : Nat) (a : Lab), ls[i]? = some a → (∃ ln, lines[i]? = some ln ∧ tellOf (Txt.split ln " ") = some a) ∧ canOf st (ls.take i) a = true
def rdBad (st : RSt) (ls : List Lab) (ln : Str) : Prop := tellOf (Txt.split ln " ") = none ∨ ∃ a, tellOf (Txt.split ln " ") = some a ∧ canOf st ls a = false
theorem rdTo.good {st : RSt} {lines : List Str} {ls : List Lab} (h : rdTo st lines ls) : goodTo st ls ls.length := fun j a _ ha => (h j a ha).2
theorem rdTo.snoc {st : RSt} {lines : List Str} {ls : List Lab} {ln : Str} {a : Lab} (h : rdTo st lines ls) (hl : lines[ls.length]? = some ln) (ht : tellOf (Txt.split ln " ") = some a) (hc : canOf st ls a = true) : rdTo st lines (ls ++ [a]) := fun i b hb => by
  by_cases e : i < ls.length
  · rw [List.getElem?_append_left e] at hb
    obtain ⟨h1, h2⟩ := h i b hb
    refine ⟨h1, ?_⟩
    rw [List.take_append_of_le_length (by omega)]
    exact h2
  · have hi := (List.getElem?_eq_some_iff.mp hb).1
    rw [List.length_append, List.length_singleton] at hi
    obtain rfl : i = ls.length := by omega
    rw [List.getElem?_append_right (Nat.le_refl _), Nat.sub_self] at hb
    cases hb
    rw [List.take_left]
    exact ⟨⟨ln, hl, ht⟩, hc⟩
end SL
namespace SK
open PySem PySem.Spec PyProof.Rows L2 SL
section
variable {w : World} {K : PySem.W.Frag} {mg : Str → Option Value} {base : Heap}
def spSigned : Sp := sp1 fun v H Q _ => ∃ z, v = .str z ∧ z.length ≤ 640 ∧ ∀ H', Same H H' → Q (optV (signedIn z)) H'
abbrev n_signed_in : List Str := ["word", "number"]
theorem sc_signed_in : FnScope n_signed_in ["word"] (defScope d_signed_in) := ⟨rfl, rfl, rfl, by decide +kernel, rfl, by decide +kernel, by decide +kernel⟩
theorem ok_signed_in (T : Top w K mg) : Has prg w K mg base CX0 2 (He.ga K "signed_in") ["word"] spSigned := by
  obtain ⟨fd, F⟩ := T.F_signed_in
  obtain ⟨fd_whole_in, G_whole_in, b_whole_in, k_whole_in⟩ := ok_whole_in (base := base) T
  refine ⟨fd, F.ok (k := 1) sc_signed_in (fun _ _ _ _ h => sp1_len h) (fun cdv A outer s H vs Q E hr h => ?_), F.bindsN (fun _ _ _ _ _ _ us hl => match us, hl with | [_], _ => rfl), F.kp⟩
  obtain ⟨v0, rfl, h⟩ := h
  refine ⟨_, PSs.nox (pss_cons (ps_if (pt_not (pt_val (pe_m1 PySem.F.slot_str_startswith PySem.F.type_str_startswith mt_startswith (pv 0) (pe_cS (by rfl) T.c_MINUS)))) (pss_one (ps_ret (pe_call G_whole_in (hr.mono (by decide)) (by rfl) T.g_whole_in k_whole_in b_whole_in .nil pass0 (pa_cons (pv 0) pa_nil)))) pss_nil)
    (pss_cons (ps_set (i := 1) sc_signed_in.nd rfl (Or.inl rfl) (pe_call G_whole_in (hr.mono (by decide)) (by rfl) T.g_whole_in k_whole_in b_whole_in .nil pass0 (pa_cons (pe_slice sl_str (pv 0) (po_some pe_int) po_none) pa_nil)))
    (pss_one (ps_ret (pe_ifExp (PW.pt (pw_or (pt_cmpR op_isN (pv 1) pe_non (nomark _)) (pw_or1 (pt_cmpR op_eq (pv 1) pe_int (nomark _))))) pe_non (pe_un un_neg (pv 1))))))), ?_⟩
  obtain ⟨z, rfl, hz, q⟩ := h
  refine ⟨_, rfl, ⟨_, rfl⟩, _, _, rfl, rfl, _, rfl, ?_⟩
  unfold signedIn at q
  cases hs : Txt.startswith z "-" with
  | false =>
    rw [hs, if_neg Bool.false_ne_true] at q
    exact ⟨_, rfl, _, rfl, z, rfl, hz, q⟩
  | true =>
    rw [hs, if_pos rfl] at q
    have hcl : (cutS z (some 1) none).length ≤ 640 := Nat.le_trans (cutS_length _ _ _) hz
    refine ⟨_, rfl, (1 : Int), rfl, z, rfl, Nat.le_trans hz (by decide), _, rfl, _, rfl, hcl, fun H1 s1 => ?_⟩
    cases hw : wholeIn (cutS z (some 1) none) with
    | none =>
      rw [hw] at q
      refine ⟨_, rfl, rfl, _, rfl, ?_⟩
      exact q _ s1
    | some n =>
      rw [hw] at q
      refine ⟨_, rfl, rfl, _, rfl, ?_⟩
      rw [decide_eq_false (fun e => by cases e)]
      refine ⟨_, rfl, rfl, _, rfl, ?_⟩
      have q1 := q _ s1
      have q1 : Q (optV (if n = 0 then none else some (-n))) H1 := q1
      by_cases h0 : n = 0
      · rw [show decide (optV (some n) = V.int 0) = true from decide_eq_true (congrArg V.int h0)]
        rw [if_pos h0] at q1
        exact q1
      · rw [decide_eq_false (fun e => h0 (V.int.inj e) : ¬ optV (some n) = V.int 0)]
        rw [if_neg h0] at q1
        exact ⟨_, rfl, n, rfl, q1⟩
def spLabTold : Sp := sp1 fun v H Q _ => ∃ (t : Addr) (ws : List Str), v = .ref t ∧ H t = some (.lst (ws.map V.str)) ∧ (∀ z ∈ ws, z.length ≤ 640) ∧ (tellOf ws = none → ∀ H', Same H H' → Q .non H') ∧ (∀ l, tellOf ws = some l → ∀ H' v, Same H H' → LabAt H' v l → Q v H')
abbrev n_label_told : List Str := ["words", "numbers", "word"]
theorem sc_label_told : FnScope n_label_told ["words"] (defScope d_label_told) := ⟨rfl, rfl, rfl, by decide +kernel, rfl, by decide +kernel, by decide +kernel⟩
theorem ok_label_told (T : Top w K mg) : Has prg w K mg base CX0 3 (He.ga K "label_told") ["words"] spLabTold := by
  obtain ⟨fd, F⟩ := T.F_label_told
  obtain ⟨fd_signed_in, G_signed_in, b_signed_in, k_signed_in⟩ := ok_signed_in (base := base) T
  refine ⟨fd, F.ok (k := 2) sc_label_told (fun _ _ _ _ h => sp1_len h) (fun cdv A outer s H vs Q E hr h => ?_), F.bindsN (fun _ _ _ _ _ _ us hl => match us, hl with | [_], _ => rfl), F.kp⟩
  obtain ⟨v0, rfl, h⟩ := h
  refine ⟨_, PSs.nox (pss_cons (ps_if (pt_cmpR op_ne (pe_callB call_len (by rfl) T.b_len (by decide +kernel) (pa_cons (pv 0) pa_nil)) (pe_cI (by rfl) T.c_LINE_WORDS) (nomark _)) (pss_one (ps_ret pe_non)) pss_nil)
    (pss_cons (ps_setLc (i := 1) (own := [("word", 2)]) (g := gName 2) (by rfl) sc_label_told.nd rfl rfl (sw_true rfl rfl rfl (by decide +kernel)) (pi_list (pe_slice sl_list (pv 0) (po_some (pe_cI (by rfl) T.c_NUMBERS_AT)) po_none)) (blkOk_by (N := n_label_told) (sc := defScope d_label_told) (own := [("word", 2)]) (by decide +kernel)) (fun _ _ _ _ _ => (pg_name (i := 2) sc_label_told.nd rfl (Or.inl rfl) (.inr rfl))) (fun _ _ _ _ _ => pts_nil) (fun _ _ _ _ _ => (pe_call G_signed_in (hr.mono (by decide)) (by rfl) T.g_signed_in k_signed_in b_signed_in .nil pass0 (pa_cons (pv 2) pa_nil))))
    (pss_one (ps_ret (pe_ifExp (pt_cmpR op_in_seq pe_non (pv 1) (by rfl)) pe_non (pe_tup (pa_cons (pe_ix ix_list (pv 0) pe_int (fun _ _ => rfl)) (pa_cons (pe_ix ix_list (pv 0) pe_int (fun _ _ => rfl)) (StX.pa_star (pv 1) pa_nil))))))))), ?_⟩
  obtain ⟨t, ws, rfl, ht, hw, q0, q1⟩ := h
  refine ⟨_, rfl, _, _, rfl, .inl ⟨_, SqL.of ht, rfl⟩, rfl, _, rfl, ?_⟩
  rw [List.length_map]
  by_cases h6 : ws.length = 6
  case neg =>
    rw [decide_eq_false (fun e => h6 (by have := V.int.inj e; omega) : ¬ V.int ((ws.length : Nat) : Int) = V.int 6)]
    exact q0 (tell_no h6) _ (Same.refl _)
  obtain ⟨a, b, c, d, e, f, rfl⟩ : ∃ a b c d e f, ws = [a, b, c, d, e, f] := by
    match ws, h6 with
    | [a, b, c, d, e, f], _ => exact ⟨a, b, c, d, e, f, rfl⟩
  refine ⟨_, rfl, (2 : Int), rfl, t, _, rfl, SqL.of ht, fun S hS => ?_⟩
  have s1 := same_new (o := .lst ([c, d, e, f].map V.str)) hS
  have hS1 : upd H S (.lst ([c, d, e, f].map V.str)) S = some (.lst ([c, d, e, f].map V.str)) := upd_same
  rw [show cutV ([a, b, c, d, e, f].map V.str) (some (2 : Int)) none = [c, d, e, f].map V.str from cutV_drop _ 2]
  generalize upd H S (.lst ([c, d, e, f].map V.str)) = H1 at s1 hS1 ⊢
  refine ⟨S, rfl, ⟨_, SqL.of hS1⟩, fun D hD => ?_⟩
  refine lc_fm (walk_list (xs := [c, d, e, f].map V.str)) (fun i => ([c, d, e, f][i]?).bind fun z => some (optV (signedIn z))) hD (by show 4 ≤ sizeLine; decide) (fun H2 s2 => SqL.of (s2 _ _ hS1)) ?_ ?_
  · rintro i v H2x H2 Ky Kn hi s2 ⟨rfl, hv⟩ ky kn
    rw [List.getElem?_map] at hv
    obtain ⟨z, hz, rfl⟩ := Option.map_eq_some_iff.mp hv
    exact ⟨rfl, _, rfl, _, rfl, z, rfl, hw z (List.mem_cons_of_mem _ (List.mem_cons_of_mem _ (List.mem_of_getElem? hz))), fun H' s' => ky _ _ (by rw [hz]; rfl) s'⟩
  intro H2 s2 hD2
  have hD2 : H2 D = some (.lst [optV (signedIn c), optV (signedIn d), optV (signedIn e), optV (signedIn f)]) := hD2
  have s02 := s1.trans s2
  have ht2 := s02 _ _ ht
  have fl : ∀ o : Option Int, flatV (optV o) = true := fun o => by cases o <;> rfl
  refine ⟨_, rfl, D, _, rfl, .inl (SqL.of hD2), rfl, by simp [fl], _, rfl, ?_⟩
  have tn : (signedIn c = none ∨ signedIn d = none ∨ signedIn e = none ∨ signedIn f = none) → tellOf [a, b, c, d, e, f] = none := fun h => by
    unfold tellOf
    dsimp only
    split
    · rename_i h1 h2 h3 h4
      rcases h with h | h | h | h
      · rw [h] at h1; cases h1
      · rw [h] at h2; cases h2
      · rw [h] at h3; cases h3
      · rw [h] at h4; cases h4
    · rfl
  by_cases hn : signedIn c = none ∨ signedIn d = none ∨ signedIn e = none ∨ signedIn f = none
  · have hin : (if false = true then !inV V.non [optV (signedIn c), optV (signedIn d), optV (signedIn e), optV (signedIn f)] else inV V.non [optV (signedIn c), optV (signedIn d), optV (signedIn e), optV (signedIn f)]) = true := by
      rw [if_neg Bool.false_ne_true]
      unfold inV
      rw [List.any_eq_true]
      rcases hn with h | h | h | h
      · exact ⟨optV (signedIn c), by simp, by rw [h]; rfl⟩
      · exact ⟨optV (signedIn d), by simp, by rw [h]; rfl⟩
      · exact ⟨optV (signedIn e), by simp, by rw [h]; rfl⟩
      · exact ⟨optV (signedIn f), by simp, by rw [h]; rfl⟩
    rw [hin]
    exact q0 (tn hn) _ s02
  · obtain ⟨c', hc⟩ : ∃ c', signedIn c = some c' := Option.ne_none_iff_exists'.mp fun h => hn (.inl h)
    obtain ⟨d', hd⟩ : ∃ d', signedIn d = some d' := Option.ne_none_iff_exists'.mp fun h => hn (.inr (.inl h))
    obtain ⟨e', he⟩ : ∃ e', signedIn e = some e' := Option.ne_none_iff_exists'.mp fun h => hn (.inr (.inr (.inl h)))
    obtain ⟨f', hf⟩ : ∃ f', signedIn f = some f' := Option.ne_none_iff_exists'.mp fun h => hn (.inr (.inr (.inr h)))
    rw [hc, hd, he, hf] at hD2 ⊢
    have hin : (if false = true then !inV V.non [optV (some c'), optV (some d'), optV (some e'), optV (some f')] else inV V.non [optV (some c'), optV (some d'), optV (some e'), optV (some f')]) = false := rfl
    rw [hin]
    refine ⟨_, rfl, t, _, _, _, rfl, rfl, SqL.of ht2, atI_nat (j := 0) rfl, _, rfl, t, _, _, _, rfl, rfl, SqL.of ht2, atI_nat (j := 1) rfl, _, rfl, D, _, rfl, .inr (SqL.of hD2), (by show 6 ≤ sizeLine; decide), fun p hp => ?_⟩
    refine q1 ⟨a, b, c', d', e', f'⟩ ?_ _ _ (s02.trans (same_new hp)) ⟨p, rfl, upd_same⟩
    unfold tellOf
    dsimp only
    rw [hc, hd, he, hf]
def spReadL (K : PySem.W.Frag) : Sp := sp2 fun s v H Q E => ∃ x st, StAt K H s x st ∧ (∃ n, Kn H v n) ∧ (isStrV v = false → Rz H E (He.ga K "BadLine") (.int 0)) ∧ ∀ z, v = .str z → z.length ≤ 100000 ∧ (∀ ln ∈ linesIn z, ln.length ≤ 640) ∧
  (30 < (linesIn z).length → Rz H E (He.ga K "BadLine") (.int 0)) ∧ ((linesIn z).length ≤ 30 →
    (∀ ls, rdTo st (linesIn z) ls → ls.length = (linesIn z).length → ∀ H' v' rs, Same H H' → ShAt K H' v' s x st rs → rs.Perm ls → inOrd st rs → Q v' H') ∧
    (∀ ls ln, rdTo st (linesIn z) ls → (linesIn z)[ls.length]? = some ln → rdBad st ls ln → Rz H E (He.ga K "BadLine") (.int (ls.length + 1))))
abbrev n_read_labels : List Str := ["style", "text", "lines", "found", "at", "line", "label"]
theorem sc_read_labels : FnScope n_read_labels ["style", "text"] (defScope d_read_labels) := ⟨rfl, rfl, rfl, by decide +kernel, rfl, by decide +kernel, by decide +kernel⟩
theorem ok_read_labels (T : Top w K mg) : Has prg w K mg base (L2.CX prg w) 11 (He.ga K "read_labels") ["style", "text"] (spReadL K) := by
  obtain ⟨fd, F⟩ := T.F_read_labels
  obtain ⟨fd_label_told, G_label_told, b_label_told, k_label_told⟩ := ok_label_told (base := base) T
  obtain ⟨fd_can_stand, G_can_stand, b_can_stand, k_can_stand⟩ := ok_can_stand (base := base) T
  obtain ⟨fd_Sheet_init, G_Sheet_init, b_Sheet_init, k_Sheet_init⟩ := ok_Sheet_init (base := base) T
  refine ⟨fd, F.ok (k := 10) sc_read_labels (fun _ _ _ _ h => sp2_len h) (fun cdv A outer s H vs Q E hr h => ?_), F.bindsN (fun _ _ _ _ _ _ us hl => match us, hl with | [_, _], _ => rfl), F.kp⟩
  obtain ⟨v0, v1, rfl, h⟩ := h
  refine ⟨_, (pss_cons (ps_if (pt_not (pt_val (pe_callB call_isi (by rfl) T.b_isinstance (by decide +kernel) (pa_cons (pv 1) (pa_cons (pe_bltn (v := .ty "str") (by rfl) T.b_str (by decide +kernel) rfl) pa_nil))))) (pss_one (ps_raiseE T.ini T.b_super T.er_BadLine (hr.mono (by decide)) (by rfl) T.g_BadLine (by rfl) (takes_of rfl rfl rfl rfl) pe_int)) pss_nil)
    (pss_cons (ps_set (i := 2) sc_read_labels.nd rfl (Or.inl rfl) (pe_ifExp (pt_cmpR op_eq (pv 1) pe_str (nomark _)) (pe_lst pa_nil) (pe_split (pv 1) pe_str)))
    (pss_cons (ps_if (pt_cmpR op_gt (pe_callB call_len (by rfl) T.b_len (by decide +kernel) (pa_cons (pv 2) pa_nil)) (pe_cI (by rfl) T.c_MOST_LABELS) (nomark _)) (pss_one (ps_raiseE T.ini T.b_super T.er_BadLine (hr.mono (by decide)) (by rfl) T.g_BadLine (by rfl) (takes_of rfl rfl rfl rfl) pe_int)) pss_nil)
    (pss_cons (ps_set (i := 3) sc_read_labels.nd rfl (Or.inl rfl) (pe_lst pa_nil))
    (pss_cons (ps_for (passes_of rfl) rfl (pi_enum (by rfl) T.b_enumerate (pa_cons (pv 2) pa_nil)) (pg_tup rfl (pgs_cons (pg_name (i := 4) sc_read_labels.nd rfl (Or.inl rfl)) (pgs_cons (pg_name (i := 5) sc_read_labels.nd rfl (Or.inl rfl)) pgs_nil))) (pss_cons (ps_set (i := 6) sc_read_labels.nd rfl (Or.inl rfl) (pe_call G_label_told (hr.mono (by decide)) (by rfl) T.g_label_told k_label_told b_label_told .nil pass0 (pa_cons (pe_split (pv 5) pe_str) pa_nil)))
    (pss_cons (ps_if (PW.pt (pw_or (pt_cmpR op_isN (pv 6) pe_non (nomark _)) (pw_or1 (pt_not (pt_val (pe_call G_can_stand (hr.mono (by decide)) (by rfl) T.g_can_stand k_can_stand b_can_stand .nil pass0 (pa_cons (pv 0) (pa_cons (pv 3) (pa_cons (pv 6) pa_nil))))))))) (pss_one (ps_raiseE T.ini T.b_super T.er_BadLine (hr.mono (by decide)) (by rfl) T.g_BadLine (by rfl) (takes_of rfl rfl rfl rfl) (pe_op op_add (pv 4) pe_int))) pss_nil)
    (pss_one (ps_expr (pe_bm PySem.F.plainAttrs_list PySem.F.slot_list_append PySem.F.type_list_append mt_append (pv 3) (pa_cons (pv 6) pa_nil)))))))
    (pss_one (ps_ret (pe_make T.mk_Sheet G_Sheet_init (hr.mono (by decide)) (by rfl) T.g_Sheet b_Sheet_init .nil passNo (pa_cons (pv 0) (pa_cons (pe_callTy call_tuple_of (by rfl) T.b_tuple boot_tuple (pa_cons (pv 3) pa_nil)) pa_nil)))))))))), ?_⟩
  obtain ⟨x, st, S, ⟨n, kn⟩, qs, qz⟩ := h
  refine ⟨_, rfl, _, _, _, _, _, rfl, .ty _, kn.tyx, kn.kStr, _, rfl, ?_⟩
  cases hsv : isStrV v1 with
  | false =>
    show if true = true then _ else _
    exact Rz.fin T.er_BadLine (qs hsv)
  | true =>
    obtain ⟨z, rfl⟩ : ∃ z, v1 = .str z := by
      cases v1 <;> first | exact ⟨_, rfl⟩ | cases hsv
    obtain ⟨hz, hln, q30, q01⟩ := qz z rfl
    show if false = true then _ else _
    refine ⟨_, rfl, rfl, _, rfl, ?_⟩
    by_cases hz0 : z = ""
    case' pos =>
      rw [decide_eq_true (congrArg V.str hz0)]
      refine ⟨(by show 0 ≤ sizeLine; decide), fun L hL => ?_⟩
      have s1 := same_new (o := .lst []) hL
      have hL1 : upd H L (.lst []) L = some (.lst ((linesIn z).map V.str)) := by
        rw [upd_same]
        unfold linesIn
        rw [if_pos hz0]
        rfl
      generalize upd H L (.lst []) = H1 at s1 hL1 ⊢
    case' neg =>
      rw [decide_eq_false (fun e => hz0 (V.str.inj e))]
      refine ⟨_, rfl, ⟨_, rfl⟩, _, _, rfl, rfl, (by decide +kernel), (by rw [sizeLine_eq]; omega), fun L hL => ?_⟩
      have s1 := same_new (o := .lst ((Txt.split z "\n").map V.str)) hL
      have hL1 : upd H L (.lst ((Txt.split z "\n").map V.str)) L = some (.lst ((linesIn z).map V.str)) := by
        rw [upd_same]
        unfold linesIn
        rw [if_neg hz0]
      generalize upd H L (.lst ((Txt.split z "\n").map V.str)) = H1 at s1 hL1 ⊢
    all_goals
      refine ⟨_, rfl, _, _, rfl, .inl ⟨_, SqL.of hL1, rfl⟩, _, _, rfl, rfl, _, rfl, ?_⟩
      rw [List.length_map]
      by_cases h30 : (linesIn z).length ≤ 30
      case neg =>
        rw [decide_eq_true (show (30 : Int) < ((linesIn z).length : Nat) by omega)]
        exact Rz.fin T.er_BadLine ((q30 (by omega)).from s1)
      rw [decide_eq_false (show ¬ (30 : Int) < ((linesIn z).length : Nat) by omega)]
      obtain ⟨qo, qb⟩ := q01 h30
      refine ⟨(by show 0 ≤ sizeLine; decide), fun D hD => ?_⟩
      have s2 := same_new (o := .lst []) hD
      have hD2 : upd H1 D (.lst []) D = some (.lst []) := upd_same
      generalize upd H1 D (.lst []) = H2 at s2 hD2 ⊢
      have hL2 := s2 _ _ hL1
      refine ⟨_, rfl, L, _, rfl, SqL.of hL2, ?_⟩
      refine for_it (walk_enum (K := K) (a := L) (xs := (linesIn z).map V.str)) (fun i σ G => ∃ (o4 o5 o6 : Option V) (us : List V) (ls : List Lab), σ = [some v0, some (.str z), some (.ref L), some (.ref D), o4, o5, o6] ∧ Same H1 G ∧ G D = some (.lst us) ∧ LabsAt G us ls ∧ ls.length = i ∧ rdTo st (linesIn z) ls) ⟨_, _, _, [], [], rfl, s2, hD2, .nil, rfl, fun i a h => by simp at h⟩ (fun _ _ _ _ ⟨_, _, _, _, _, _, p, _⟩ => SqL.of (p _ _ hL1)) ?_ ?_
      · rintro i y σ G2 G3 hi ⟨o4, o5, o6, us, ls, rfl, sG, hDG, LG, rfl, rd⟩ ⟨Tt, x1, y1, rfl, hT, rfl, e1, e2⟩
        cases e1
        have e2 : ((linesIn z).map V.str)[ls.length]? = some y1 := e2
        rw [List.getElem?_map] at e2
        obtain ⟨ln, hl, rfl⟩ := Option.map_eq_some_iff.mp e2
        have hlnl := hln ln (List.mem_of_getElem? hl)
        have sT := same_new (o := .tup [V.int ls.length, V.str ln]) hT
        refine ⟨Tt, _, rfl, SqT.of upd_same, rfl, _, _, rfl, _, _, rfl, rfl, ?_⟩
        generalize upd G2 Tt (.tup [V.int ls.length, V.str ln]) = G4 at sT ⊢
        refine ⟨_, rfl, ⟨_, rfl⟩, _, _, rfl, rfl, (by decide +kernel), (by rw [sizeLine_eq]; omega), fun W hW => ?_⟩
        have sW := same_new (o := .lst ((Txt.split ln " ").map V.str)) hW
        have hW5 : upd G4 W (.lst ((Txt.split ln " ").map V.str)) W = some (.lst ((Txt.split ln " ").map V.str)) := upd_same
        generalize upd G4 W (.lst ((Txt.split ln " ").map V.str)) = G5 at sW hW5 ⊢
        have hwl : ∀ p ∈ Txt.split ln " ", p.length ≤ 640 := fun p hp => Nat.le_trans ((split_bounds tl_sp (by decide +kernel) ln).2.2 p hp) hlnl
        have s25 := sT.trans sW
        refine ⟨_, rfl, W, Txt.split ln " ", rfl, hW5, hwl, fun tn G6 s6 => ?_, fun a ta G6 v s6 La => ?_⟩
        · refine ⟨_, rfl, rfl, _, rfl, ?_⟩
          exact ⟨_, rfl, _, _, rfl, rfl, Rz.fin T.er_BadLine ((qb ls ln rd hl (.inl tn)).from (s1.trans (sG.trans (s25.trans s6))))⟩
        obtain ⟨tv, rfl, htv⟩ := id La
        refine ⟨_, rfl, rfl, _, rfl, ?_⟩
        rw [decide_eq_false (fun e => by cases e)]
        have s26 := s25.trans s6
        refine ⟨_, rfl, _, rfl, _, rfl, _, _, _, rfl, x, st, D, us, ls, a, true, SAt.same (s1.trans (sG.trans s26)) S, rfl, s26 _ _ hDG, LG.same s26, fun b hb => goodTo_kind rd.good b (by rw [List.take_length]; exact hb), La, Nat.le_trans (hwl _ (tell_name ta)) (by decide), fun G7 s7 => ⟨_, rfl, ?_⟩⟩
        have s27 := s26.trans s7
        cases hc : canOf st ls a with
        | false =>
          exact ⟨_, rfl, _, _, rfl, rfl, Rz.fin T.er_BadLine ((qb ls ln rd hl (.inr ⟨a, ta, hc⟩)).from (s1.trans (sG.trans s27)))⟩
        | true =>
          have hll := labs_len LG
          have hil : ls.length < (linesIn z).length := (List.getElem?_eq_some_iff.mp hl).1
          refine ⟨_, rfl, .inl ⟨rfl, _, SqL.of (s27 _ _ hDG)⟩, _, rfl, D, us, _, rfl, rfl, s27 _ _ hDG, (by rw [hll, sizeLine_eq]; omega), ?_⟩
          have nD : ∀ b o, H1 b = some o → b ≠ D := fun b o hb e => by rw [e, hD] at hb; cases hb
          refine ⟨_, _, _, us ++ [.ref tv], ls ++ [a], rfl, fun b o hb => ?_, upd_same, ?_, by rw [List.length_append]; rfl, rd.snoc hl ta hc⟩
          · rw [upd_ne (nD b o hb)]
            exact s27 _ _ (sG _ _ hb)
          · have nl : Nl G7 (upd G7 D (.lst (us ++ [V.ref tv]))) := Nl.lst (s27 _ _ hDG)
            exact labs_app ((LG.same s27).nl nl) (.cons ((La.same s7).nl nl) .nil)
      · rintro σ G ⟨o4, o5, o6, us, ls, rfl, sG, hDG, LG, hli, rd⟩
        rw [List.length_map] at hli
        refine ⟨_, rfl, _, rfl, D, _, rfl, .inl ⟨SqL.of hDG, fun t0 ht0 => ?_⟩⟩
        have s4 := same_new (o := .tup us) ht0
        have ht4 : upd G t0 (.tup us) t0 = some (.tup us) := upd_same
        generalize upd G t0 (.tup us) = G4 at s4 ht4 ⊢
        have s04 := s1.trans (sG.trans s4)
        have hnl : ∀ a ∈ ls, a.name.length ≤ 1000 := fun a ha => by
          obtain ⟨j, hj, e⟩ := List.getElem_of_mem ha
          have := (rd j a (by rw [List.getElem?_eq_getElem hj, e])).2
          exact Nat.le_trans (name_len (labOk_name (canOf_ok this))) (by decide)
        intro b2 x2 x3 x4 x5
        refine sheet_q (K := K) (SAt.same s04 S) ht4 (LG.same s4) hnl (by omega) rd.good x3 x4 x5 fun G5 rs s5 S5 pm io => ⟨rfl, ?_⟩
        exact qo ls rd hli _ _ rs (s04.trans s5) S5 pm io
end
end SK
set_option maxHeartbeats 4000000
namespace SL
open PySem PySem.Spec PyProof.Rows L2 TL
abbrev cn11 (z : Str) : Prop := ∀ c ∈ tl z, c ≠ 10 ∧ c < 1000
def Ln (B : Nat) (z : Str) : Prop := z.length ≤ B ∧ cn11 z
theorem Ln.mono {B C : Nat} {z : Str} (h : Ln B z) (e : B ≤ C) : Ln C z := ⟨Nat.le_trans h.1 e, h.2⟩
def wt (ws : List Str) : Nat := (ws.map fun w => w.length + 1).sum
theorem wt_app (a b : List Str) : wt (a ++ b) = wt a + wt b := by
  unfold wt
  rw [List.map_append, List.sum_append]
theorem wt_one (a : Str) : wt [a] = a.length + 1 := by simp [wt]
theorem joinL_wt (s : Nat) : ∀ ws : List Str, (joinL [s] (ws.map tl)).length + (if ws = [] then 0 else 1) = wt ws
  | [] => rfl
  | [p] => by
    show (tl p).length + 1 = wt [p]
    rw [wt_one, len_tl]
  | p :: q :: r => by
    show (tl p ++ ([s] ++ joinL [s] ((q :: r).map tl))).length + 1 = wt (p :: (q :: r))
    have h := joinL_wt s (q :: r)
    rw [if_neg (by simp)] at h
    rw [show (p :: q :: r) = [p] ++ (q :: r) from rfl, wt_app, wt_one, List.length_append, List.length_append, ← h, len_tl, List.length_singleton]
    omega
theorem join_wt {y : Str} {s : Nat} (ey : tl y = [s]) (ws : List Str) : (Txt.join y ws).length + (if ws = [] then 0 else 1) = wt ws := by
  rw [len_tl, join_eq, tl_join, ey]
  exact joinL_wt s ws
theorem split_ne (x y : Str) {s : Nat} (ey : tl y = [s]) (hk : y.cps.all (· < 256) = true) : Txt.split x y ≠ [] := (split_bounds ey hk x).2.1
theorem split_wt (x : Str) : wt (Txt.split x " ") = x.length + 1 := by
  have h := join_wt (y := " ") tl_sp (Txt.split x " ")
  rw [if_neg (split_ne x _ tl_sp (by decide +kernel)), join_eq, StrLaws.join_split] at h
  exact h.symm
theorem mem_joinL' {c : Nat} {S : List Nat} : ∀ {ps : List (List Nat)} {p}, p ∈ ps → c ∈ p → c ∈ joinL S ps
  | [p], q, hq, hc => by
    rw [List.mem_singleton] at hq
    subst hq
    exact hc
  | p :: r :: t, q, hq, hc => by
    show c ∈ p ++ (S ++ joinL S (r :: t))
    rcases List.mem_cons.mp hq with rfl | hq
    · exact List.mem_append_left _ hc
    · exact List.mem_append_right _ (List.mem_append_right _ (mem_joinL' hq hc))
theorem split_sub {x y p : Str} {c : Nat} (hp : p ∈ Txt.split x y) (hc : c ∈ tl p) : c ∈ tl x := by
  have h : tl (Str.join y (Txt.split x y)) = tl x := by rw [StrLaws.join_split]
  rw [← h, tl_join]
  exact mem_joinL' (List.mem_map.mpr ⟨p, hp, rfl⟩) hc
theorem split_ln {B : Nat} {x : Str} (h : Ln B x) : ∀ p ∈ Txt.split x " ", Ln B p := fun p hp => ⟨Nat.le_trans ((split_bounds tl_sp (by decide +kernel) x).2.2 p hp) h.1, fun c hc => h.2 c (split_sub hp hc)⟩
theorem join_ln {C : Nat} {ws : List Str} (h : wt ws ≤ C) (hn : ∀ p ∈ ws, cn11 p) : Ln C (Txt.join " " ws) := by
  refine ⟨?_, fun c hc => ?_⟩
  · have := join_wt (y := " ") tl_sp ws
    omega
  · rw [join_eq, tl_join, tl_sp] at hc
    rcases mem_joinL hc with h1 | ⟨p, hp, h1⟩
    · simp at h1
      omega
    · obtain ⟨z, hz, rfl⟩ := List.mem_map.mp hp
      exact hn z hz c h1
theorem wt_take_drop (ws : List Str) (k : Nat) : wt (ws.take k) + wt (ws.drop k) = wt ws := by rw [← wt_app, List.take_append_drop]
theorem wt_drop_le (ws : List Str) (k : Nat) : wt (ws.drop k) ≤ wt ws := by
  have := wt_take_drop ws k
  omega
theorem cutS_sub {z : Str} {lo hi : Option Int} {c : Nat} (h : c ∈ tl (cutS z lo hi)) : c ∈ tl z := by
  unfold cutS tl at h
  exact List.mem_of_mem_drop (List.mem_of_mem_take h)
theorem tl_app (a b : Str) : tl (a ++ b) = tl a ++ tl b := by
  show (a.cps ++ b.cps).toList = _
  rw [Array.toList_append]
theorem ln_sign {B : Nat} {x q : Str} {k j : Nat} (h : Ln B x) (hq : q.length ≤ 1 ∧ cn11 q) (hkj : k ≤ j) : Ln (2 * B + 14) (cutS x none (some (k : Int)) ++ q ++ cutS x (some (j : Int)) none) := by
  refine ⟨?_, fun c hc => ?_⟩
  · have h1 : (cutS x none (some (k : Int))).length ≤ x.length := cutS_length _ _ _
    have h2 : (cutS x (some (j : Int)) none).length ≤ x.length := cutS_length _ _ _
    have h3 := h.1
    rw [len_app, len_app]
    omega
  · rw [tl_app, tl_app, List.append_assoc] at hc
    rcases List.mem_append.mp hc with hc | hc
    · exact h.2 c (cutS_sub hc)
    · rcases List.mem_append.mp hc with hc | hc
      · exact hq.2 c hc
      · exact h.2 c (cutS_sub hc)
theorem wt_sum (ys : List Str) : (ys.map (·.length)).sum + ys.length * (" " : Str).length = wt ys := by
  have e : (" " : Str).length = 1 := by decide +kernel
  rw [e]
  induction ys with
  | nil => rfl
  | cons y r ih =>
    unfold wt at *
    simp only [List.map_cons, List.sum_cons, List.length_cons] at *
    omega
theorem ext_sub {ws a b : List Str} {q : Str} (ha : ∀ z ∈ a, z ∈ ws) (hb : ∀ z ∈ b, z ∈ ws) (hw : ∀ p ∈ ws, cn11 p) (hq : cn11 q) : ∀ z ∈ a ++ [q] ++ b, cn11 z := fun z hz => by
  rw [List.append_assoc] at hz
  rcases List.mem_append.mp hz with hz | hz
  · exact hw z (ha z hz)
  · rcases List.mem_append.mp hz with hz | hz
    · rw [List.mem_singleton] at hz
      rw [hz]
      exact hq
    · exact hw z (hb z hz)
theorem wt_more {B k : Nat} {x q : Str} (h : Ln B x) (hq : q.length ≤ B + 1) : wt ((Txt.split x " ").take k ++ [q] ++ (Txt.split x " ").drop k) ≤ 2 * B + 14 := by
  have h1 := wt_take_drop (Txt.split x " ") k
  have h2 := split_wt x
  have h3 := h.1
  rw [wt_app, wt_app, wt_one]
  omega
theorem wt_less {B k : Nat} {x : Str} (h : Ln B x) : wt ((Txt.split x " ").take k ++ (Txt.split x " ").drop (k + 1)) ≤ 2 * B + 14 := by
  have h1 := wt_take_drop (Txt.split x " ") k
  have h4 := wt_drop_le ((Txt.split x " ").drop k) 1
  rw [List.drop_drop] at h4
  have h2 := split_wt x
  have h3 := h.1
  rw [wt_app]
  omega
theorem cutV_take (xs : List V) (k : Nat) : cutV xs none (some (k : Int)) = xs.take k := by
  unfold cutV
  rw [HT.sIx_nat, HT.sIx_none, List.drop_zero, Nat.sub_zero]
  by_cases h : k ≤ xs.length
  · rw [Nat.min_eq_left h]
  · rw [Nat.min_eq_right (by omega), List.take_of_length_le (Nat.le_refl _), List.take_of_length_le (by omega)]
theorem cutT (xs : List Str) (k : Nat) : cutV (xs.map V.str) none (some (k : Int)) = (xs.take k).map V.str := by rw [cutV_take, List.map_take]
theorem cutD (xs : List Str) (k : Nat) : cutV (xs.map V.str) (some (k : Int)) none = (xs.drop k).map V.str := by rw [cutV_drop, List.map_drop]
theorem map3 (a b : List Str) (q : Str) : a.map V.str ++ [V.str q] ++ b.map V.str = (a ++ [q] ++ b).map V.str := by simp
theorem map2 (a b : List Str) : a.map V.str ++ b.map V.str = (a ++ b).map V.str := by simp
theorem get_str {ws : List Str} {k : Nat} (h : k < ws.length) : ∃ p, ws[k]? = some p ∧ p ∈ ws ∧ (ws.map V.str)[k]? = some (V.str p) := ⟨ws[k], List.getElem?_eq_getElem h, List.getElem_mem h, by rw [List.getElem?_map, List.getElem?_eq_getElem h]; rfl⟩
end SL
set_option maxHeartbeats 4000000
namespace SL
open PySem PySem.Spec PyProof.Rows L2
section
variable {X : Cx} {K : PySem.W.Frag}
end
end SL
set_option maxHeartbeats 4000000
namespace SL
open PySem PySem.Spec PyProof.Rows L2
def rEqNilT (K : PySem.W.Frag) : R2 := fun x y H Q => ∃ (a b : Addr) (xs : List V), x = .ref a ∧ y = .ref b ∧ SqT K H a xs ∧ SqT K H b [] ∧ Q (.bl xs.isEmpty) H
section
variable {X : Cx}
theorem op_eqNilT (hu : X.A.units + 64 < cLine) : OpR X (compareOp .Eq) (rEqNilT X.K) := by
  intro pins s σ H x y v u Q I rx ry h
  obtain ⟨a, b, xs, rfl, rfl, ha, hb, q⟩ := h
  cases rx
  cases ry
  obtain ⟨its, rv, ⟨o, eo, co, n, dn⟩, _⟩ := I.tuple ha
  obtain ⟨its2, rv2, ⟨o2, eo2, co2, n2, dn2⟩, _⟩ := I.tuple hb
  cases rv2
  have hr := SeqAt.RcAt.tuples (A := X.A) (s := s) (l := a) (b := b) (items := its.toArray) (items2 := #[]) (e := fun _ => true) ⟨o, eo, co, n, dn⟩ ⟨o2, eo2, co2, n2, dn2⟩ (by omega) (fun j h1 h2 => absurd h2 (Nat.not_lt_zero _))
  refine hr X.prog X.w _ _ ⟨.bl xs.isEmpty, H, I, ?_, q⟩
  cases rv with
  | nil => rfl
  | cons _ _ => rfl
end
end SL
set_option maxHeartbeats 4000000
namespace SL
open PySem PySem.Spec PyProof.Rows L2
def rCatU : R2 := fun x y H Q => ∃ a b xs ys, x = .ref a ∧ y = .ref b ∧ H a = some (.tup xs) ∧ H b = some (.tup ys) ∧ xs.length + ys.length ≤ sizeLine ∧ ∀ p H', Same H H' → H' p = some (.tup (xs ++ ys)) → Q (.ref p) H'
theorem op_catU {X : Cx} : OpR X (binaryOp .Add) rCatU := by
  intro pins s σ H x y v u Q I rx ry h
  obtain ⟨a, b, xs, ys, rfl, rfl, ha, hb, hz, q⟩ := h
  refine op_catA pins s σ H _ _ v u Q I rx ry ⟨a, b, xs, ys, rfl, rfl, SqT.of ha, SqT.of hb, hz, fun e => ?_, fun _ e => ?_, fun _ _ p hp => q p _ (same_new hp) upd_same⟩
  · subst e
    exact q b H (Same.refl _) hb
  · subst e
    exact q a H (Same.refl _) (by rw [List.append_nil]; exact ha)
end SL
set_option maxHeartbeats 4000000
namespace SL
open PySem PySem.Spec PyProof.Rows L2
end SL
namespace SK
open PySem PySem.Spec PyProof.Rows L2 SL
section
variable {w : World} {K : PySem.W.Frag} {mg : Str → Option Value} {base : Heap}
end
end SK
set_option maxHeartbeats 4000000
namespace SL
open PySem PySem.Spec PyProof.Rows L2
structure Way where
  sx : Int
  sy : Int
  dx : Int
  dy : Int
structure WayOk (w : Way) : Prop where
  x : w.sx = 1 ∨ w.sx = -1
  y : w.sy = 1 ∨ w.sy = -1
def mvL (w : Way) (a : Lab) : Lab := ⟨a.name, a.kind, a.letters, a.weight, w.sx * a.x + w.dx, w.sy * a.y + w.dy⟩
theorem abs_mv {s d x y : Int} (h : s = 1 ∨ s = -1) : absI (s * x + d - (s * y + d)) = absI (x - y) := by
  unfold absI
  rcases h with rfl | rfl <;> split <;> split <;> omega
section
variable {w : Way} {st : RSt} {n : Int}
theorem gap_mv (ok : WayOk w) (a b : Lab) : gapOf (mvL w a) (mvL w b) = gapOf a b := by
  unfold gapOf
  show (if _ then _ else _) = _
  rw [show absI ((mvL w a).x - (mvL w b).x) = absI (a.x - b.x) from abs_mv ok.x, show absI ((mvL w a).y - (mvL w b).y) = absI (a.y - b.y) from abs_mv ok.y]
theorem near_mv (ok : WayOk w) (a b : Lab) : nearOf st (mvL w a) (mvL w b) = nearOf st a b := by
  unfold nearOf
  rw [gap_mv ok]
  rfl
theorem Gd.mv (ok : WayOk w) {ls : List Lab} (g : Gd st ls) (hb : ∀ a ∈ ls, labOk st (mvL w a) = true) : Gd st (ls.map (mvL w)) := by
  refine ⟨by rw [List.length_map]; exact g.len, fun a ha => ?_, List.pairwise_map.mpr (g.far.imp fun {a b} h => by rw [near_mv ok]; exact h)⟩
  obtain ⟨b, hb2, rfl⟩ := List.mem_map.mp ha
  exact hb b hb2
end
end SL
set_option maxHeartbeats 4000000
namespace SL
open PySem PySem.Spec PyProof.Rows L2
end SL
namespace SK
open PySem PySem.Spec PyProof.Rows L2 SL
section
variable {w : World} {K : PySem.W.Frag} {mg : Str → Option Value} {base : Heap}
end
end SK
set_option pp.maxSteps 1500
set_option pp.deepTerms false
set_option maxHeartbeats 4000000
namespace SL
open PySem PySem.Spec PyProof.Rows L2 TL
theorem dig_mono : ∀ (cs : List Nat) (n : Nat), n ≤ cs.foldl (fun acc c => acc * 10 + (c - 48)) n
  | [], n => Nat.le_refl _
  | c :: r, n => by
    have := dig_mono r (n * 10 + (c - 48))
    rw [List.foldl_cons]
    omega
theorem cut_hd (z : Str) : tl (cutS z none (some 1)) = (tl z).take 1 := by
  show ((((tl z).drop (HT.sIx z.length 0 none)).take (HT.sIx z.length z.length (some ((1 : Nat) : Int)) - HT.sIx z.length 0 none)).toArray).toList = _
  rw [HT.sIx_nat, HT.sIx_none, List.toList_toArray, List.drop_zero, TL.len_tl]
  cases tl z with
  | nil => rfl
  | cons c r => simp
theorem minus_hd (z : Str) : (cutS z none (some 1) = "-") ↔ (tl z).head? = some 45 := by
  constructor
  · intro e
    have h := cut_hd z
    rw [e] at h
    have h : ([45] : List Nat) = (tl z).take 1 := h
    cases e2 : tl z with
    | nil => rw [e2] at h; cases h
    | cons c r => rw [e2] at h; cases h; rfl
  · intro h
    refine ext_tl ?_
    rw [cut_hd]
    cases e2 : tl z with
    | nil => rw [e2] at h; cases h
    | cons c r => rw [e2] at h; cases h; rfl
def restOf (z : Str) : Str := if (tl z).head? = some 45 then cutS z (some 1) none else z
theorem num11_none {z : Str} (h : restOf z = "" ∨ allFig (restOf z) = false ∨ ((tl (restOf z)).head? = some 48 ∧ z ≠ "0")) : signedIn z = none := by
  unfold restOf at h
  unfold signedIn
  rw [starts_minus]
  by_cases hn : (tl z).head? = some 45
  · rw [if_pos hn] at h
    rw [if_pos (decide_eq_true hn)]
    unfold wholeIn
    rcases h with h | h | ⟨h, h2⟩
    · rw [if_pos (.inl h)]
      rfl
    · rw [if_pos (.inr h)]
      rfl
    · split
      · rfl
      · split
        · rename_i h3
          rcases h3 with h3 | h3
          · rw [h3]
            have : intText? "0" = some 0 := by decide +kernel
            rw [this]
            rfl
          · exact absurd h h3
        · rfl
  · rw [if_neg hn] at h
    rw [if_neg (fun e => hn (of_decide_eq_true e))]
    unfold wholeIn
    rcases h with h | h | ⟨h, h2⟩
    · rw [if_pos (.inl h)]
    · rw [if_pos (.inr h)]
    · split
      · rfl
      · rw [if_neg (fun e => e.elim h2 (fun e => e h))]
theorem num11_some {z : Str} (hl : z.length ≤ 640) (h1 : restOf z ≠ "") (h2 : allFig (restOf z) = true) (h3 : ¬ ((tl (restOf z)).head? = some 48 ∧ z ≠ "0")) : ∃ n, signedIn z = some n ∧ intText? z = some n := by
  unfold restOf at h1 h2 h3
  unfold signedIn
  rw [starts_minus]
  by_cases hn : (tl z).head? = some 45
  · rw [if_pos hn] at h1 h2 h3
    rw [if_pos (decide_eq_true hn)]
    have hz0 : z ≠ "0" := fun e => by
      rw [e] at hn
      exact absurd hn (by decide +kernel)
    have h3 : (tl (cutS z (some 1) none)).head? ≠ some 48 := fun e => h3 ⟨e, hz0⟩
    obtain ⟨r, hr⟩ : ∃ r, tl z = 45 :: r := by
      cases e : tl z with
      | nil => rw [e] at hn; cases hn
      | cons c r => rw [e] at hn; cases hn; exact ⟨r, rfl⟩
    have hc := cut_one z
    rw [hr] at hc
    have hc : tl (cutS z (some 1) none) = r := hc
    have hdig : NumText.AllDigits r := fun c hc2 => fig_ok (of_decide_eq_true (List.all_eq_true.mp h2 c (by rw [show (cutS z (some 1) none).cps.toList = r from hc]; exact hc2)))
    have hne : r ≠ [] := fun e => h1 (ext_tl (by rw [hc, e]; rfl))
    have hlc : (cutS z (some 1) none).length ≤ 640 := Nat.le_trans (cutS_length _ _ _) hl
    have hi := intText_neg (x := z) hr hdig hne (by omega)
    have hw : wholeIn (cutS z (some 1) none) = some ((NumText.digitsVal r : Nat) : Int) := by
      unfold wholeIn
      rw [if_neg (fun e => e.elim h1 (fun e => by rw [h2] at e; cases e)), if_pos (.inr h3)]
      have := intText_digits (x := cutS z (some 1) none) (by rw [show (cutS z (some 1) none).cps.toList = r from hc]; exact hdig) (by rw [show (cutS z (some 1) none).cps.toList = r from hc]; exact hne) (by omega)
      rw [show (cutS z (some 1) none).cps.toList = r from hc] at this
      exact this
    have hpos : NumText.digitsVal r ≠ 0 := by
      cases r with
      | nil => exact absurd rfl hne
      | cons c r =>
        have h4 := hdig c (by simp)
        have h5 : c ≠ 48 := fun e => h3 (by rw [hc, e]; rfl)
        have := dig_mono r (0 * 10 + (c - 48))
        unfold NumText.digitsVal
        rw [List.foldl_cons]
        omega
    refine ⟨_, ?_, hi⟩
    rw [hw]
    show (if ((NumText.digitsVal r : Nat) : Int) = 0 then none else some (-((NumText.digitsVal r : Nat) : Int))) = _
    rw [if_neg (by omega)]
  · rw [if_neg hn] at h1 h2 h3
    rw [if_neg (fun e => hn (of_decide_eq_true e))]
    have hdig : NumText.AllDigits z.cps.toList := fun c hc => fig_ok (of_decide_eq_true (List.all_eq_true.mp h2 c hc))
    have hne : z.cps.toList ≠ [] := fun e => h1 (ext_tl (by show z.cps.toList = _; rw [e]; rfl))
    have hi := intText_digits hdig hne (by omega)
    refine ⟨_, ?_, hi⟩
    unfold wholeIn
    rw [if_neg (fun e => e.elim h1 (fun e => by rw [h2] at e; cases e)), if_pos, hi]
    by_cases h0 : z = "0"
    · exact .inl h0
    · exact .inr fun e => h3 ⟨e, h0⟩
theorem filter_one11 {rows : List Row} (nd : (rows.map Row.name).Nodup) {r : Row} (h : r ∈ rows) : (rows.filter fun q => decide (q.name = r.name)) = [r] := by
  induction rows with
  | nil => cases h
  | cons a l ih =>
    rw [List.map_cons, List.nodup_cons] at nd
    rcases List.mem_cons.mp h with rfl | h
    · rw [List.filter_cons_of_pos (by simp)]
      congr 1
      refine List.filter_eq_nil_iff.mpr fun q hq e => nd.1 ?_
      rw [← of_decide_eq_true e]
      exact List.mem_map.mpr ⟨q, hq, rfl⟩
    · rw [List.filter_cons_of_neg, ih nd.2 h]
      intro e
      exact nd.1 (by rw [of_decide_eq_true e]; exact List.mem_map.mpr ⟨r, h, rfl⟩)
theorem fm11 {α : Type} {p : α → Prop} [DecidablePred p] {f : α → PyData} (l : List α) : l.filterMap (fun a => if p a then some (f a) else none) = (l.filter fun a => decide (p a)).map f := by
  induction l with
  | nil => rfl
  | cons a r ih => by_cases h : p a <;> simp [List.filterMap_cons, List.filter_cons, h, ih]
theorem filter_no11 {rows : List Row} {k : Str} (h : k ∉ rows.map Row.name) : (rows.filter fun q => decide (q.name = k)) = [] :=
  List.filter_eq_nil_iff.mpr fun q hq e => h (by rw [← of_decide_eq_true e]; exact List.mem_map.mpr ⟨q, hq, rfl⟩)
theorem chain_le {ta tb tc : TE} {σ : L2.St} {H : Hp} {Q : VK} {i j k : Int} (ha : ∀ Q' : VK, Q' (.int i) H → ta σ H Q') (hb : ∀ Q' : VK, Q' (.int j) H → tb σ H Q') (hc : ∀ Q' : VK, Q' (.int k) H → tc σ H Q')
    (q : Q (.bl (decide (i ≤ j) && decide (j ≤ k))) H) : tChain (rI0 fun i j => V.bl (decide (i ≤ j))) (rI0 fun i j => V.bl (decide (i ≤ j))) ta tb tc σ H Q := by
  refine ha _ (hb _ ⟨i, j, rfl, rfl, _, rfl, ?_⟩)
  cases e : decide (i ≤ j) with
  | true =>
    rw [e, Bool.true_and] at q
    exact hc _ ⟨j, k, rfl, rfl, q⟩
  | false =>
    rw [e, Bool.false_and] at q
    exact q
theorem and_le {c1 c2 : Bool} {P : Prop} {Kn : V → Hp → Prop} {H : Hp} (h : Kn (.bl c2) H → P) (q : Kn (.bl (c1 && c2)) H) : if c1 = true then P else Kn (.bl false) H := by
  cases c1 with
  | true => exact h q
  | false => exact q
def labL11 (st : RSt) (ln : Str) : Option Lab := (tellOf (Txt.split ln " ")).bind fun a => if labOk st a = true then some a else none
def spLbOf : Sp := sp2 fun a z H Q _ => ∃ lo x, LoreAt H a lo ∧ LoreOk lo ∧ z = .str x ∧ x.length ≤ 640 ∧ (labL11 (stL lo) x = none → ∀ H' e, Same H H' → H' e = some (.tup []) → Q (.ref e) H') ∧ (∀ l, labL11 (stL lo) x = some l → ∀ H' v, Same H H' → LabAt H' v l → Q v H')
end SL
namespace SK
open PySem PySem.Spec PyProof.Rows L2 SL
section
variable {w : World} {K : PySem.W.Frag} {mg : Str → Option Value} {base : Heap}
abbrev n_law_number : List Str := ["_law_word", "_law_rest", "_law_sign"]
theorem sc_law_number : FnScope n_law_number ["_law_word"] (defScope d_law_number) := ⟨rfl, rfl, rfl, by decide +kernel, rfl, by decide +kernel, by decide +kernel⟩
theorem ok_law_number (T : Top w K mg) : Has prg w K mg base CX0 1 (He.ga K "_law_number") ["_law_word"] spSigned := by
  obtain ⟨fd, F⟩ := T.F_law_number
  refine ⟨fd, F.ok (k := 0) sc_law_number (fun _ _ _ _ h => sp1_len h) (fun cdv A outer s H vs Q E hr h => ?_), F.bindsN (fun _ _ _ _ _ _ us hl => match us, hl with | [_], _ => rfl), F.kp⟩
  obtain ⟨v0, rfl, h⟩ := h
  refine ⟨_, PSs.nox (pss_cons (ps_set (i := 1) sc_law_number.nd rfl (Or.inl rfl) (pe_ifExp (pt_cmpR op_eq (pe_slice sl_str (pv 0) po_none (po_some pe_int)) pe_str (nomark _)) (pe_slice sl_str (pv 0) (po_some pe_int) po_none) (pv 0)))
    (pss_cons (ps_if (PW.pt (pw_or (pt_cmpR op_eq (pv 1) pe_str (nomark _)) (pw_or (pt_not (pt_val (pe_callB (cr_all rfl) (by rfl) T.b_all (by decide +kernel) (pa_cons (pe_lc (own := [("_law_sign", 2)]) (g := gName 2) (by rfl) sc_law_number.nd (pi_str (pv 1)) (blkOk_by (N := n_law_number) (sc := defScope d_law_number) (own := [("_law_sign", 2)]) (by decide +kernel)) (fun _ _ _ _ _ => (pg_name (i := 2) sc_law_number.nd rfl (Or.inl rfl) (.inr rfl))) (fun _ _ _ _ _ => pts_nil) (fun _ _ _ _ _ => (pe_cmpR op_in_sign (pv 2) pe_str (by rfl)))) pa_nil)))) (pw_or1 (PW.pt (pw_and (pt_cmpR op_eq (pe_ix ix_str (pv 1) pe_int (fun _ _ => rfl)) pe_str (nomark _)) (pw_and1 (pt_cmpR op_ne (pv 0) pe_str (nomark _))))))))) (pss_one (ps_ret pe_non)) pss_nil)
    (pss_one (ps_ret (pe_callTy call_int_str (by rfl) T.b_int boot_int (pa_cons (pv 0) pa_nil)))))), ?_⟩
  obtain ⟨z, rfl, hz, q⟩ := h
  have hz2 : z.length ≤ sizeLine := Nat.le_trans hz (by decide)
  have hrl : (restOf z).length ≤ 640 := by
    unfold restOf
    split
    · exact Nat.le_trans (cutS_length _ _ _) hz
    · exact hz
  have hr2 : (restOf z).length ≤ sizeLine := Nat.le_trans hrl (by decide)
  refine ⟨_, rfl, (1 : Int), rfl, z, rfl, hz2, rfl, _, rfl, ?_⟩
  rw [show decide (V.str (cutS z none (some 1)) = V.str "-") = decide ((TL.tl z).head? = some 45) from decide_eq_decide.mpr ⟨fun e => (minus_hd z).mp (V.str.inj e), fun e => congrArg V.str ((minus_hd z).mpr e)⟩]
  refine (show ∀ {Kn : V → Hp → Prop}, Kn (.str (restOf z)) H → (fun (c : Bool) H1 => if c = true then tSl rSlS (tVar 0) (tPart (tC (V.int 1))) tNoPart (L2.start n_law_number [V.str z]) H1 Kn else tVar 0 (L2.start n_law_number [V.str z]) H1 Kn) (decide ((TL.tl z).head? = some 45)) H from fun {Kn} kk => ?_) ?_
  · unfold restOf at kk
    by_cases hm : (TL.tl z).head? = some 45
    · rw [if_pos hm] at kk
      rw [decide_eq_true hm]
      exact ⟨_, rfl, (1 : Int), rfl, z, rfl, hz2, kk⟩
    · rw [if_neg hm] at kk
      rw [decide_eq_false hm]
      exact ⟨_, rfl, kk⟩
  have bad : (restOf z = "" ∨ allFig (restOf z) = false ∨ ((TL.tl (restOf z)).head? = some 48 ∧ z ≠ "0")) → ∀ H', Same H H' → Q .non H' := fun e H' s' => by
    have := q H' s'
    rw [num11_none e] at this
    exact this
  refine ⟨_, rfl, rfl, _, rfl, ?_⟩
  by_cases h1 : restOf z = ""
  · rw [decide_eq_true (congrArg V.str h1)]
    exact bad (.inl h1) _ (Same.refl _)
  rw [decide_eq_false fun e => h1 (V.str.inj e)]
  refine ⟨_, rfl, restOf z, rfl, fun D hD => ?_⟩
  refine lc_sgn (p := fun c => decide (c ∈ figL)) hD hr2 (fun c H1 Ky Kn s1 k => ⟨rfl, ⟨_, rfl, _, _, rfl, rfl, k⟩⟩) (fun H1 s1 hl => ?_)
  refine ⟨D, _, rfl, SqL.of hl, _, rfl, ?_⟩
  rw [all_map]
  have ef : ((restOf z).cps.toList.all fun c => decide (c ∈ figL)) = allFig (restOf z) := rfl
  rw [ef]
  cases hf : allFig (restOf z) with
  | false => exact bad (.inr (.inl hf)) _ s1
  | true =>
    have hne : (restOf z).cps.toList ≠ [] := fun e => h1 (Str.ext' (Array.toList_inj.mp e))
    obtain ⟨c, r, hc⟩ : ∃ c r, (restOf z).cps.toList = c :: r := List.exists_cons_of_ne_nil hne
    have hat : atI (restOf z).cps.toList 0 = some c := atI_nat (j := 0) (by rw [hc]; rfl)
    have hh : (TL.tl (restOf z)).head? = some c := by
      show (restOf z).cps.toList.head? = _
      rw [hc]
      rfl
    have good : ¬ ((TL.tl (restOf z)).head? = some 48 ∧ z ≠ "0") → ∃ n, intText? z = some n ∧ ∀ H', Same H H' → Q (.int n) H' := fun e => by
      obtain ⟨n, e1, e2⟩ := num11_some hz h1 hf e
      refine ⟨n, e2, fun H' s' => ?_⟩
      have := q H' s'
      rw [e1] at this
      exact this
    refine ⟨_, rfl, restOf z, _, c, rfl, rfl, hr2, hat, rfl, _, rfl, ?_⟩
    by_cases h3 : c = 48
    · have e3 : V.str ⟨#[c]⟩ = V.str "0" := by
        rw [h3]
        exact congrArg V.str (by decide +kernel)
      rw [decide_eq_true e3]
      refine ⟨_, rfl, rfl, _, rfl, ?_⟩
      by_cases h2 : z = "0"
      · rw [decide_eq_true (congrArg V.str h2)]
        obtain ⟨n, e2, qn⟩ := good fun e => e.2 h2
        exact ⟨_, rfl, z, _, rfl, e2, hz, qn _ s1⟩
      · rw [decide_eq_false fun e => h2 (V.str.inj e)]
        exact bad (.inr (.inr ⟨by rw [hh, h3], h2⟩)) _ s1
    · have e3 : V.str ⟨#[c]⟩ ≠ V.str "0" := fun e => h3 (by
        have e4 : (⟨#[c]⟩ : Str) = ⟨#[48]⟩ := (V.str.inj e).trans (by decide +kernel)
        have e5 := congrArg (fun z : Str => z.cps.toList) e4
        exact (List.cons.inj e5).1)
      rw [decide_eq_false e3]
      obtain ⟨n, e2, qn⟩ := good fun e => h3 (by rw [hh] at e; exact Option.some.inj e.1)
      exact ⟨_, rfl, z, _, rfl, e2, hz, qn _ s1⟩
abbrev n_law_label_of : List Str := ["_law_lore_here", "_law_line", "_law_words", "_law_rows", "_law_numbers", "_law_is_right", "_law_one", "_law_word", "_law_sign"]
theorem sc_law_label_of : FnScope n_law_label_of ["_law_lore_here", "_law_line"] (defScope d_law_label_of) := ⟨rfl, rfl, rfl, by decide +kernel, rfl, by decide +kernel, by decide +kernel⟩
theorem ok_law_label_of (T : Top w K mg) : Has prg w K mg base CX0 3 (He.ga K "_law_label_of") ["_law_lore_here", "_law_line"] spLbOf := by
  obtain ⟨fd, F⟩ := T.F_law_label_of
  obtain ⟨fd_law_number, G_law_number, b_law_number, k_law_number⟩ := ok_law_number (base := base) T
  refine ⟨fd, F.ok (k := 2) sc_law_label_of (fun _ _ _ _ h => sp2_len h) (fun cdv A outer s H vs Q E hr h => ?_), F.bindsN (fun _ _ _ _ _ _ us hl => match us, hl with | [_, _], _ => rfl), F.kp⟩
  obtain ⟨v0, v1, rfl, h⟩ := h
  refine ⟨_, PSs.nox (pss_cons (ps_set (i := 2) sc_law_label_of.nd rfl (Or.inr rfl) (pe_split (pv 1) pe_str))
    (pss_cons (ps_if (PW.pt (pw_or (pt_cmpR op_ne (pe_callB call_len (by rfl) T.b_len (by decide +kernel) (pa_cons (pv 2) pa_nil)) pe_int (nomark _)) (pw_or1 (pt_not (pt_chain op_le op_le pe_int (pe_callB call_len (by rfl) T.b_len (by decide +kernel) (pa_cons (pe_ix ix_list (pv 2) pe_int (fun _ _ => rfl)) pa_nil)) pe_int))))) (pss_one (ps_ret (pe_tup pa_nil))) pss_nil)
    (pss_cons (ps_setLc (i := 3) (own := [("_law_one", 6)]) (g := gName 6) (by rfl) sc_law_label_of.nd rfl rfl (sw_true rfl rfl rfl (by decide +kernel)) (pi_list (pe_dget (hu_of hr) (pv 0) pe_str (fun _ _ => rfl))) (blkOk_by (N := n_law_label_of) (sc := defScope d_law_label_of) (own := [("_law_one", 6)]) (by decide +kernel)) (fun _ _ _ _ _ => (pg_name (i := 6) sc_law_label_of.nd rfl (Or.inl rfl) (.inr rfl))) (fun _ _ _ _ _ => (pts_one (pt_cmpR op_eq (pe_ix (ix_tupK (K := K) rfl) (pv 6) pe_int (fun _ _ => rfl)) (pe_ix (ix_listK (K := K) rfl) (pv 2) pe_int (fun _ _ => rfl)) (nomark _)))) (fun _ _ _ _ _ => (pv 6)))
    (pss_cons (ps_setLc (i := 4) (own := [("_law_word", 7)]) (g := gName 7) (by rfl) sc_law_label_of.nd rfl rfl (sw_true rfl rfl rfl (by decide +kernel)) (pi_list (pe_slice sl_list (pv 2) (po_some pe_int) po_none)) (blkOk_by (N := n_law_label_of) (sc := defScope d_law_label_of) (own := [("_law_word", 7)]) (by decide +kernel)) (fun _ _ _ _ _ => (pg_name (i := 7) sc_law_label_of.nd rfl (Or.inl rfl) (.inr rfl))) (fun _ _ _ _ _ => pts_nil) (fun _ _ _ _ _ => (pe_call G_law_number (hr.mono (by decide)) (by rfl) T.g_law_number k_law_number b_law_number .nil pass0 (pa_cons (pv 7) pa_nil))))
    (pss_cons (ps_if (PW.pt (pw_or (pt_cmpR (op_eqNil hr.units) (pv 3) (pe_lst pa_nil) (nomark _)) (pw_or (pt_cmpR op_in_seq pe_non (pv 4) (by rfl)) (pw_or1 (pt_not (pt_val (pe_callB (cr_all rfl) (by rfl) T.b_all (by decide +kernel) (pa_cons (pe_lc (own := [("_law_sign", 8)]) (g := gName 8) (by rfl) sc_law_label_of.nd (pi_str (pe_ix ix_list (pv 2) pe_int (fun _ _ => rfl))) (blkOk_by (N := n_law_label_of) (sc := defScope d_law_label_of) (own := [("_law_sign", 8)]) (by decide +kernel)) (fun _ _ _ _ _ => (pg_name (i := 8) sc_law_label_of.nd rfl (Or.inl rfl) (.inr rfl))) (fun _ _ _ _ _ => pts_nil) (fun _ _ _ _ _ => (pe_cmpR op_in_sign (pv 8) pe_str (by rfl)))) pa_nil)))))))) (pss_one (ps_ret (pe_tup pa_nil))) pss_nil)
    (pss_cons (ps_set (i := 5) sc_law_label_of.nd rfl (Or.inl rfl) (pe_and (pe_chain op_le op_le (pe_ix ix_tup (pe_ix ix_list (pv 3) pe_int (fun _ _ => rfl)) pe_int (fun _ _ => rfl)) (pe_ix ix_list (pv 4) pe_int (fun _ _ => rfl)) (pe_ix ix_tup (pe_ix ix_list (pv 3) pe_int (fun _ _ => rfl)) pe_int (fun _ _ => rfl))) (pe_one (pe_chain op_le op_le pe_int (pe_ix ix_list (pv 4) pe_int (fun _ _ => rfl)) pe_int))))
    (pss_cons (ps_set (i := 5) sc_law_label_of.nd rfl (Or.inl rfl) (pe_and (pv 5) (pe_and (pe_chain op_le op_le (pe_un un_neg pe_int) (pe_ix ix_list (pv 4) pe_int (fun _ _ => rfl)) pe_int) (pe_one (pe_chain op_le op_le (pe_un un_neg pe_int) (pe_ix ix_list (pv 4) pe_int (fun _ _ => rfl)) pe_int)))))
    (pss_one (ps_ret (pe_ifExp (pt_val (pv 5)) (pe_op op_catU (pe_tup (pa_cons (pe_ix ix_list (pv 2) pe_int (fun _ _ => rfl)) (pa_cons (pe_ix ix_list (pv 2) pe_int (fun _ _ => rfl)) pa_nil))) (pe_callTy call_tuple_of (by rfl) T.b_tuple boot_tuple (pa_cons (pv 4) pa_nil))) (pe_tup pa_nil))))))))))), ?_⟩
  obtain ⟨lo, x, LA, ok, rfl, hx, qn, qs⟩ := h
  obtain ⟨d, B, F', L, rfl, h1, _, _, ⟨cvs, hL, rvL⟩⟩ := id LA
  have hcl : cvs.length = lo.rows.length := by rw [rvL.length, List.length_map]
  have r4 := ok.r4
  obtain ⟨b1, b2, b3⟩ := split_bounds (y := " ") (s := 32) (by decide +kernel) (by decide +kernel) x
  refine ⟨_, rfl, ⟨_, rfl⟩, _, _, rfl, rfl, by decide, Nat.le_trans (show x.length + 2 ≤ 1000 by omega) (by decide), fun W hW => ?_⟩
  have s1 : Same H (upd H W (.lst ((Txt.split x " ").map V.str))) := same_new hW
  have hW1 : upd H W (.lst ((Txt.split x " ").map V.str)) W = some (.lst ((Txt.split x " ").map V.str)) := upd_same
  generalize upd H W (.lst ((Txt.split x " ").map V.str)) = H1 at s1 hW1 ⊢
  have hwl : ∀ p ∈ Txt.split x " ", p.length ≤ 640 := fun p hp => Nat.le_trans (b3 p hp) hx
  unfold labL11 at qn qs
  generalize hws : Txt.split x " " = ws at hW1 hwl b1 b2 qn qs
  have no : ∀ G, Same H G → (tellOf ws = none ∨ ∃ a, tellOf ws = some a ∧ labOk (stL lo) a = false) → ∀ e, G e = some (.tup []) → Q (.ref e) G := fun G sG hno e he => by
    refine qn ?_ G e sG he
    rcases hno with e | ⟨a, e, e2⟩
    · rw [e]
      rfl
    · rw [e]
      show (if labOk (stL lo) a = true then some a else none) = none
      rw [e2]
      rfl
  have nom : ∀ {nx} (G : Hp), Same H G → (tellOf ws = none ∨ ∃ a, tellOf ws = some a ∧ labOk (stL lo) a = false) → (tRet (tTup tNil) : TS) { nx := nx, rt := Q } [] G := fun {nx} G sG hno => by
    refine ⟨(by show 0 ≤ sizeLine; decide), fun e he => ?_⟩
    exact no _ (sG.trans (same_new he)) hno e upd_same
  refine ⟨_, rfl, _, _, rfl, .inl ⟨_, SqL.of hW1, rfl⟩, rfl, _, rfl, ?_⟩
  rw [List.length_map]
  by_cases h6 : ws.length = 6
  case neg =>
    rw [decide_eq_false (fun e => h6 (by have := V.int.inj e; omega) : ¬ V.int ((ws.length : Nat) : Int) = V.int 6)]
    exact nom _ s1 (.inl (tell_no h6))
  rw [show decide (V.int ((ws.length : Nat) : Int) = V.int 6) = true from decide_eq_true (by rw [h6]; rfl)]
  obtain ⟨a, b, c, dd, ee, ff, rfl⟩ : ∃ a b c d e f, ws = [a, b, c, d, e, f] := by
    match ws, h6 with
    | [a, b, c, d, e, f], _ => exact ⟨a, b, c, d, e, f, rfl⟩
  have ha := hwl a (by simp)
  have nameBad : isName a = false → (tellOf [a, b, c, dd, ee, ff] = none ∨ ∃ l, tellOf [a, b, c, dd, ee, ff] = some l ∧ labOk (stL lo) l = false) := fun hb => by
    cases e : tellOf [a, b, c, dd, ee, ff] with
    | none => exact .inl rfl
    | some l =>
      refine .inr ⟨l, rfl, ?_⟩
      have : l.name = a := by
        unfold tellOf at e
        dsimp only at e
        split at e
        · cases e
          rfl
        · cases e
      unfold labOk
      rw [this, hb]
      rfl
  refine ⟨_, rfl, W, _, _, _, rfl, rfl, SqL.of hW1, atI_nat (j := 0) rfl, _, a.length, rfl, ⟨Nat.le_trans ha (by decide), rfl⟩, _, _, rfl, rfl, _, rfl, ?_⟩
  by_cases n1 : 1 ≤ a.length
  case neg =>
    rw [decide_eq_false (show ¬ (1 : Int) ≤ (a.length : Nat) by omega)]
    refine ⟨_, rfl, nom _ s1 (nameBad ?_)⟩
    unfold isName
    rw [decide_eq_false n1]
    rfl
  rw [decide_eq_true (show (1 : Int) ≤ (a.length : Nat) by omega)]
  refine ⟨_, _, rfl, rfl, _, rfl, ?_⟩
  by_cases n2 : a.length ≤ 12
  case neg =>
    rw [decide_eq_false (show ¬ ((a.length : Nat) : Int) ≤ 12 by omega)]
    refine nom _ s1 (nameBad ?_)
    unfold isName
    rw [decide_eq_false n2, Bool.and_false]
    rfl
  rw [decide_eq_true (show ((a.length : Nat) : Int) ≤ 12 by omega)]
  show if false = true then _ else _
  -- its class
  refine ⟨_, rfl, d, _, rfl, lg_classes (s1 _ _ h1), L, rfl, ⟨_, SqL.of (s1 _ _ hL)⟩, fun D3 hD3 => ?_⟩
  refine lc_fz (walk_list (xs := cvs)) (fun i => (lo.rows[i]?).bind fun q => if q.name = b then some (clD q) else none) ?_ hD3 (by rw [hcl, sizeLine_eq]; omega) (fun G g => SqL.of (g _ _ (s1 _ _ hL))) ?_ ?_
  · intro i e he
    obtain ⟨q', _, hq⟩ := Option.bind_eq_some_iff.mp he
    split at hq
    · cases hq
      have := clD_fz [q']
      simpa [fzAll] using this
    · cases hq
  · rintro i y Gx G Ky Kn' hi g3 ⟨rfl, hx⟩ ky kn
    obtain ⟨q', hq⟩ : ∃ q', lo.rows[i]? = some q' := ⟨_, List.getElem?_eq_getElem (by omega)⟩
    obtain ⟨x', hx', rvx⟩ := rvL.get (i := i) (d := clD q') (by rw [List.getElem?_map, hq]; rfl)
    rw [hx] at hx'
    cases hx'
    have rvx := (rvx.same s1).same g3
    obtain ⟨tq, uq, rfl, htq, _⟩ := cl_parts rvx
    refine ⟨rfl, _, rfl, tq, _, _, _, rfl, rfl, SqT.of htq, atI_nat (j := 0) rfl, _, rfl, W, _, _, _, rfl, rfl, SqL.of (g3 _ _ hW1), atI_nat (j := 1) rfl, rfl, _, rfl, ?_⟩
    by_cases e : q'.name = b
    case pos =>
      rw [decide_eq_true (congrArg V.str e)]
      refine ⟨_, rfl, ky _ (clD q') _ ?_ rvx (Same.refl _)⟩
      rw [hq]
      exact if_pos e
    case neg =>
      rw [decide_eq_false (fun z => e (V.str.inj z))]
      refine kn _ ?_ (Same.refl _)
      rw [hq]
      exact if_neg e
  intro G3 l3 g3 hD3' r3
  have e3 : (List.range cvs.length).filterMap (fun i => (lo.rows[i]?).bind fun q => if q.name = b then some (clD q) else none) = (lo.rows.filter fun q => decide (q.name = b)).map clD := by
    rw [hcl, fm_get, fm11]
  rw [e3] at r3
  have s3 := s1.trans g3
  have hW3 := g3 _ _ hW1
  -- its numbers
  refine ⟨_, rfl, (2 : Int), rfl, W, _, rfl, SqL.of hW3, fun S hS => ?_⟩
  have s4 := same_new (o := .lst ([c, dd, ee, ff].map V.str)) hS
  have hS4 : upd G3 S (.lst ([c, dd, ee, ff].map V.str)) S = some (.lst ([c, dd, ee, ff].map V.str)) := upd_same
  rw [show cutV ([a, b, c, dd, ee, ff].map V.str) (some (2 : Int)) none = [c, dd, ee, ff].map V.str from SL.cutD _ 2]
  generalize upd G3 S (.lst ([c, dd, ee, ff].map V.str)) = G4 at s4 hS4 ⊢
  refine ⟨S, rfl, ⟨_, SqL.of hS4⟩, fun D hD => ?_⟩
  refine lc_fm (walk_list (xs := [c, dd, ee, ff].map V.str)) (fun i => ([c, dd, ee, ff][i]?).bind fun z => some (optV (signedIn z))) hD (by show 4 ≤ sizeLine; decide) (fun H2 s2 => SqL.of (s2 _ _ hS4)) ?_ ?_
  · rintro i v H2x H2 Ky Kn hi s2 ⟨rfl, hv⟩ ky kn
    rw [List.getElem?_map] at hv
    obtain ⟨z, hz, rfl⟩ := Option.map_eq_some_iff.mp hv
    exact ⟨rfl, _, rfl, _, rfl, z, rfl, hwl z (List.mem_cons_of_mem _ (List.mem_cons_of_mem _ (List.mem_of_getElem? hz))), fun H' s' => ky _ _ (by rw [hz]; rfl) s'⟩
  intro G5 g5 hD5
  have hD5 : G5 D = some (.lst [optV (signedIn c), optV (signedIn dd), optV (signedIn ee), optV (signedIn ff)]) := hD5
  have s5 := s3.trans (s4.trans g5)
  have hW5 := (s4.trans g5) _ _ hW3
  have hD35 := (s4.trans g5) _ _ hD3'
  have r5 := (r3.same (s4.trans g5))
  -- no class, no number, no name
  refine ⟨_, rfl, (by show 0 ≤ sizeLine; decide), fun te hte => ?_⟩
  have t6 := same_new (o := .lst []) hte
  have ete : upd G5 te (.lst []) te = some (.lst []) := upd_same
  generalize upd G5 te (.lst []) = G6 at t6 ete ⊢
  refine ⟨D3, te, l3, rfl, rfl, SqL.of (t6 _ _ hD35), ete, _, rfl, ?_⟩
  have s6 := s5.trans t6
  have hW6 := t6 _ _ hW5
  have hD6 := t6 _ _ hD5
  have hD36 := t6 _ _ hD35
  have r6 := r5.same t6
  have nmr : names (stL lo) = lo.rows.map SL.Row.name := rfl
  have kdOf : ∀ l, tellOf [a, b, c, dd, ee, ff] = some l → l.name = a ∧ l.kind = b := fun l e => by
    unfold tellOf at e
    dsimp only at e
    split at e
    · cases e
      exact ⟨rfl, rfl⟩
    · cases e
  by_cases hb : b ∈ lo.rows.map SL.Row.name
  case neg =>
    rw [filter_no11 hb] at r6
    obtain rfl : l3 = [] := by cases r6; rfl
    refine nom _ s6 ?_
    cases e : tellOf [a, b, c, dd, ee, ff] with
    | none => exact .inl rfl
    | some l =>
      refine .inr ⟨l, rfl, ?_⟩
      unfold labOk
      rw [nmr, (kdOf l e).2, decide_eq_false hb, Bool.false_and, Bool.and_false]
  obtain ⟨r, hrm, hrn⟩ := List.mem_map.mp hb
  rw [← hrn, filter_one11 ok.rows.nd hrm] at r6
  obtain ⟨v3, rfl, rv3⟩ : ∃ v3, l3 = [v3] ∧ Rv G6 v3 (clD r) := by
    cases r6 with
    | cons a b =>
      cases b
      exact ⟨_, rfl, a⟩
  obtain ⟨tr, ur, rfl, htr, _⟩ := cl_parts rv3
  show if false = true then _ else _
  have fl : ∀ o : Option Int, flatV (optV o) = true := fun o => by cases o <;> rfl
  refine ⟨_, rfl, D, _, rfl, .inl (SqL.of hD6), rfl, by simp [fl], _, rfl, ?_⟩
  have tn : (signedIn c = none ∨ signedIn dd = none ∨ signedIn ee = none ∨ signedIn ff = none) → tellOf [a, b, c, dd, ee, ff] = none := fun h => by
    unfold tellOf
    dsimp only
    split
    · rename_i h1 h2 h3 h4
      rcases h with h | h | h | h
      · rw [h] at h1; cases h1
      · rw [h] at h2; cases h2
      · rw [h] at h3; cases h3
      · rw [h] at h4; cases h4
    · rfl
  by_cases hn : signedIn c = none ∨ signedIn dd = none ∨ signedIn ee = none ∨ signedIn ff = none
  · have hin : (if false = true then !inV V.non [optV (signedIn c), optV (signedIn dd), optV (signedIn ee), optV (signedIn ff)] else inV V.non [optV (signedIn c), optV (signedIn dd), optV (signedIn ee), optV (signedIn ff)]) = true := by
      rw [if_neg Bool.false_ne_true]
      unfold inV
      rw [List.any_eq_true]
      rcases hn with h | h | h | h
      · exact ⟨optV (signedIn c), by simp, by rw [h]; rfl⟩
      · exact ⟨optV (signedIn dd), by simp, by rw [h]; rfl⟩
      · exact ⟨optV (signedIn ee), by simp, by rw [h]; rfl⟩
      · exact ⟨optV (signedIn ff), by simp, by rw [h]; rfl⟩
    rw [hin]
    exact nom _ s6 (.inl (tn hn))
  obtain ⟨c', hc⟩ : ∃ c', signedIn c = some c' := Option.ne_none_iff_exists'.mp fun h => hn (.inl h)
  obtain ⟨d', hd⟩ : ∃ d', signedIn dd = some d' := Option.ne_none_iff_exists'.mp fun h => hn (.inr (.inl h))
  obtain ⟨e', he⟩ : ∃ e', signedIn ee = some e' := Option.ne_none_iff_exists'.mp fun h => hn (.inr (.inr (.inl h)))
  obtain ⟨f', hf⟩ : ∃ f', signedIn ff = some f' := Option.ne_none_iff_exists'.mp fun h => hn (.inr (.inr (.inr h)))
  have ht : tellOf [a, b, c, dd, ee, ff] = some ⟨a, b, c', d', e', f'⟩ := by
    unfold tellOf
    dsimp only
    rw [hc, hd, he, hf]
  have hrow : rowAt (stL lo) ⟨a, b, c', d', e', f'⟩ = some r := by
    obtain ⟨j, hj, hje⟩ := List.getElem_of_mem hrm
    have hjr : lo.rows[j]? = some r := by rw [List.getElem?_eq_getElem hj, hje]
    unfold rowAt
    rw [nmr, show (lo.rows.map SL.Row.name).idxOf b = j from idx_nd ok.rows.nd (by rw [List.getElem?_map, hjr, ← hrn]; rfl)]
    exact hjr
  have hok : labOk (stL lo) ⟨a, b, c', d', e', f'⟩ = (isName a && (((decide (r.least ≤ c') && decide (c' ≤ r.most)) && (decide (0 ≤ d') && decide (d' ≤ 9))) && ((decide (-99999 ≤ e') && decide (e' ≤ 99999)) && (decide (-99999 ≤ f') && decide (f' ≤ 99999))))) := by
    unfold labOk
    rw [hrow, nmr, decide_eq_true hb, Bool.true_and]
    dsimp only
    unfold SL.inR
    simp only [Bool.and_assoc]
  rw [hc, hd, he, hf] at hD6 ⊢
  have hin : (if false = true then !inV V.non [optV (some c'), optV (some d'), optV (some e'), optV (some f')] else inV V.non [optV (some c'), optV (some d'), optV (some e'), optV (some f')]) = false := rfl
  rw [hin]
  refine ⟨_, rfl, W, _, _, _, rfl, rfl, SqL.of hW6, atI_nat (j := 0) rfl, a, rfl, fun D4 hD4 => ?_⟩
  refine lc_sgn (p := fun c => decide (c ∈ letL)) hD4 (Nat.le_trans ha (by decide)) (fun c H1 Ky Kn s1 k => ⟨rfl, ⟨_, rfl, _, _, rfl, rfl, k⟩⟩) (fun G7 t7 hD7 => ?_)
  refine ⟨D4, _, rfl, SqL.of hD7, _, rfl, ?_⟩
  have s7 := s6.trans t7
  rw [show ((a.cps.toList.map fun c => decide (c ∈ letL)).all id) = isName a from by rw [all_map]; unfold isName; rw [decide_eq_true n1, decide_eq_true n2]; rfl]
  cases hna : isName a with
  | false => exact nom _ s7 (nameBad hna)
  | true =>
  rw [hna, Bool.true_and] at hok
  show if false = true then _ else _
  rw [if_neg Bool.false_ne_true]
  have hD37 := t7 _ _ hD36
  have hD67 : SqL K G7 D [V.int c', V.int d', V.int e', V.int f'] := SqL.of (t7 _ _ hD6)
  have htr7 := t7 _ _ htr
  unfold tNext
  dsimp only
  unfold tSeq
  dsimp only
  unfold tAsg
  unfold tAndV
  refine chain_le (i := r.least) (j := c') (k := r.most) (fun Q' q' => ⟨_, rfl, D3, _, _, _, rfl, rfl, SqL.of hD37, atI_nat (j := 0) rfl, tr, _, _, _, rfl, rfl, SqT.of htr7, atI_nat (j := 2) rfl, q'⟩) (fun Q' q' => ⟨_, rfl, D, _, _, _, rfl, rfl, hD67, atI_nat (j := 0) rfl, q'⟩) (fun Q' q' => ⟨_, rfl, D3, _, _, _, rfl, rfl, SqL.of hD37, atI_nat (j := 0) rfl, tr, _, _, _, rfl, rfl, SqT.of htr7, atI_nat (j := 3) rfl, q'⟩) ?_
  refine ⟨_, rfl, and_le (fun q' => chain_le (i := 0) (j := d') (k := 9) (fun Q' q' => q') (fun Q' q' => ⟨_, rfl, D, _, _, _, rfl, rfl, hD67, atI_nat (j := 1) rfl, q'⟩) (fun Q' q' => q') q') ?_⟩
  refine ⟨_, rfl, _, rfl, and_le (Kn := fun v G => gName 5 v _ G _) (c2 := (decide (-99999 ≤ e') && decide (e' ≤ 99999)) && (decide (-99999 ≤ f') && decide (f' ≤ 99999))) (fun q' => ?_) ?_⟩
  · refine chain_le (i := -99999) (j := e') (k := 99999) (fun Q' q' => ⟨_, rfl, q'⟩) (fun Q' q' => ⟨_, rfl, D, _, _, _, rfl, rfl, hD67, atI_nat (j := 2) rfl, q'⟩) (fun Q' q' => q') ?_
    refine ⟨_, rfl, and_le (fun q' => chain_le (i := -99999) (j := f') (k := 99999) (fun Q' q' => ⟨_, rfl, q'⟩) (fun Q' q' => ⟨_, rfl, D, _, _, _, rfl, rfl, hD67, atI_nat (j := 3) rfl, q'⟩) (fun Q' q' => q') q') q'⟩
  rw [← hok]
  cases hl : labOk (stL lo) ⟨a, b, c', d', e', f'⟩ with
  | false =>
    refine ⟨_, rfl, _, rfl, ?_⟩
    exact nom (nx := fun _ _ => True) _ s7 (.inr ⟨_, ht, hl⟩)
  | true =>
    refine ⟨_, rfl, _, rfl, ?_⟩
    have hW7 := t7 _ _ hW6
    refine ⟨_, rfl, W, _, _, _, rfl, rfl, SqL.of hW7, atI_nat (j := 0) rfl, _, rfl, W, _, _, _, rfl, rfl, SqL.of hW7, atI_nat (j := 1) rfl, (by show 2 ≤ sizeLine; decide), fun p1 hp1 => ?_⟩
    have u1 := same_new (o := .tup [V.str a, V.str b]) hp1
    have e1 : upd G7 p1 (.tup [V.str a, V.str b]) p1 = some (.tup [V.str a, V.str b]) := upd_same
    generalize upd G7 p1 (.tup [V.str a, V.str b]) = G8 at u1 e1 ⊢
    refine ⟨_, rfl, D, _, rfl, .inl ⟨u1.seq hD67, fun p2 hp2 => ?_⟩⟩
    have u2 := same_new (o := .tup [V.int c', V.int d', V.int e', V.int f']) hp2
    refine ⟨p1, p2, _, _, rfl, rfl, u2 _ _ e1, upd_same, (by show 6 ≤ sizeLine; decide), fun p3 G9 u3 hp3 => ?_⟩
    refine qs ⟨a, b, c', d', e', f'⟩ ?_ _ _ (s7.trans (u1.trans (u2.trans u3))) ⟨p3, rfl, hp3⟩
    rw [ht]
    show (if labOk (stL lo) _ = true then _ else _) = _
    rw [hl]
    rfl
end
end SK
set_option pp.maxSteps 1500
set_option pp.deepTerms false
set_option maxHeartbeats 4000000
namespace SL
open PySem PySem.Spec PyProof.Rows L2 TL
def fw11 (st : RSt) : List Str → List Lab → Nat
  | [], _ => 0
  | ln :: r, ls => match labL11 st ln with
    | some a => if (ls.all fun l => !nearOf st l a) = true then fw11 st r (ls ++ [a]) else ls.length + 1
    | none => ls.length + 1
theorem labL_some {st : RSt} {ln : Str} {a : Lab} (h : labL11 st ln = some a) : tellOf (Txt.split ln " ") = some a ∧ labOk st a = true := by
  unfold labL11 at h
  cases e : tellOf (Txt.split ln " ") with
  | none => rw [e] at h; cases h
  | some b =>
    rw [e] at h
    have h : (if labOk st b = true then some b else none) = some a := h
    split at h
    · cases h
      rename_i h2
      exact ⟨rfl, h2⟩
    · cases h
def spFw11 (K : PySem.W.Frag) : Sp := sp2 fun a R H Q _ => ∃ (lo : Lore) (r : Addr) (L : List Str), LoreAt H a lo ∧ LoreOk lo ∧ R = .ref r ∧ H r = some (.lst (L.map V.str)) ∧ L.length ≤ 30 ∧ (∀ z ∈ L, z.length ≤ 640) ∧ ∀ H', Same H H' → Q (.int ((fw11 (stL lo) L [] : Nat) : Int)) H'
end SL
namespace SK
open PySem PySem.Spec PyProof.Rows L2 SL
section
variable {w : World} {K : PySem.W.Frag} {mg : Str → Option Value} {base : Heap}
abbrev n_law_first_wrong : List Str := ["_law_lore_here", "_law_lines", "_law_found", "_law_at", "_law_line", "_law_label", "_law_one"]
theorem sc_law_first_wrong : FnScope n_law_first_wrong ["_law_lore_here", "_law_lines"] (defScope d_law_first_wrong) := ⟨rfl, rfl, rfl, by decide +kernel, rfl, by decide +kernel, by decide +kernel⟩
theorem ok_law_first_wrong (T : Top w K mg) : Has prg w K mg base CX0 5 (He.ga K "_law_first_wrong") ["_law_lore_here", "_law_lines"] (spFw11 K) := by
  obtain ⟨fd, F⟩ := T.F_law_first_wrong
  obtain ⟨fd_law_label_of, G_law_label_of, b_law_label_of, k_law_label_of⟩ := ok_law_label_of (base := base) T
  obtain ⟨fd_law_is_near, G_law_is_near, b_law_is_near, k_law_is_near⟩ := ok_law_is_near (base := base) T
  refine ⟨fd, F.ok (k := 4) sc_law_first_wrong (fun _ _ _ _ h => sp2_len h) (fun cdv A outer s H vs Q E hr h => ?_), F.bindsN (fun _ _ _ _ _ _ us hl => match us, hl with | [_, _], _ => rfl), F.kp⟩
  obtain ⟨v0, v1, rfl, h⟩ := h
  refine ⟨_, PSs.nox (pss_cons (ps_set (i := 2) sc_law_first_wrong.nd rfl (Or.inl rfl) (pe_lst pa_nil))
    (pss_cons (ps_for PassesOwn.never rfl (pi_enum (by rfl) T.b_enumerate (pa_cons (pv 1) pa_nil)) (pg_tup rfl (pgs_cons (pg_name (i := 3) sc_law_first_wrong.nd rfl (Or.inl rfl)) (pgs_cons (pg_name (i := 4) sc_law_first_wrong.nd rfl (Or.inl rfl)) pgs_nil))) (pss_cons (ps_set (i := 5) sc_law_first_wrong.nd rfl (Or.inr rfl) (pe_call G_law_label_of (hr.mono (by decide)) (by rfl) T.g_law_label_of k_law_label_of b_law_label_of .nil pass0 (pa_cons (pv 0) (pa_cons (pv 4) pa_nil))))
    (pss_cons (ps_if (PW.pt (pw_or (pt_cmpR (op_eqNilT hr.units) (pv 5) (pe_tup pa_nil) (nomark _)) (pw_or1 (pt_cmpR op_in_seq (pe_ix ix_tup (pv 5) pe_int (fun _ _ => rfl)) (pe_lc (own := [("_law_one", 6)]) (g := gName 6) (by rfl) sc_law_first_wrong.nd (pi_list (pv 2)) (blkOk_by (N := n_law_first_wrong) (sc := defScope d_law_first_wrong) (own := [("_law_one", 6)]) (by decide +kernel)) (fun _ _ _ _ _ => (pg_name (i := 6) sc_law_first_wrong.nd rfl (Or.inl rfl) (.inr rfl))) (fun _ _ _ _ _ => pts_nil) (fun _ _ _ _ _ => (pe_ix (ix_tupK (K := K) rfl) (pv 6) pe_int (fun _ _ => rfl)))) (by rfl))))) (pss_one (ps_ret (pe_op op_add (pv 3) pe_int))) pss_nil)
    (pss_cons (ps_if (pt_val (pe_callB (cr_any rfl) (by rfl) T.b_any (by decide +kernel) (pa_cons (pe_lc (own := [("_law_one", 6)]) (g := gName 6) (by rfl) sc_law_first_wrong.nd (pi_list (pv 2)) (blkOk_by (N := n_law_first_wrong) (sc := defScope d_law_first_wrong) (own := [("_law_one", 6)]) (by decide +kernel)) (fun _ _ _ _ _ => (pg_name (i := 6) sc_law_first_wrong.nd rfl (Or.inl rfl) (.inr rfl))) (fun _ _ _ _ _ => pts_nil) (fun _ _ _ _ _ => (pe_call G_law_is_near (hr.mono (by decide)) (by rfl) T.g_law_is_near k_law_is_near b_law_is_near .nil pass0 (pa_cons (pv 0) (pa_cons (pv 5) (pa_cons (pv 6) pa_nil)))))) pa_nil))) (pss_one (ps_ret (pe_op op_add (pv 3) pe_int))) pss_nil)
    (pss_one (ps_expr (pe_bm PySem.F.plainAttrs_list PySem.F.slot_list_append PySem.F.type_list_append mt_append (pv 2) (pa_cons (pv 5) pa_nil))))))))
    (pss_one (ps_ret pe_int)))), ?_⟩
  obtain ⟨lo, r, L, LA, ok, rfl, hR, hL, hz, q⟩ := h
  refine ⟨(by show 0 ≤ sizeLine; decide), fun D hD => ?_⟩
  have s1 := same_new (o := .lst []) hD
  have hD1 : upd H D (.lst []) D = some (.lst []) := upd_same
  generalize upd H D (.lst []) = H1 at s1 hD1 ⊢
  refine ⟨_, rfl, r, _, rfl, SqL.of (s1 _ _ hR), ?_⟩
  refine for_it (walk_enum (K := K) (a := r) (xs := L.map V.str)) (fun i σ G => ∃ (o3 o4 o5 : Option V) (us : List V) (ls : List Lab), σ = [some v0, some (.ref r), some (.ref D), o3, o4, o5, none] ∧ Same H G ∧ G D = some (.lst us) ∧ LabsAt G us ls ∧ ls.length = i ∧ (∀ b ∈ ls, labOk (stL lo) b = true) ∧ ∀ H', Same H H' → Q (.int ((fw11 (stL lo) (L.drop ls.length) ls : Nat) : Int)) H')
    ⟨_, _, _, [], [], rfl, s1, hD1, .nil, rfl, (fun b hb => absurd hb (by simp)), q⟩ (fun _ _ _ _ ⟨_, _, _, _, _, _, p, _⟩ => SqL.of (p _ _ hR)) ?_ ?_
  · rintro i y σ G2 G3 hi ⟨o3, o4, o5, us, ls, rfl, sG, hDG, hA, rfl, lok, q2⟩ ⟨Tt, x1, y1, rfl, hT, rfl, e1, e2⟩
    cases e1
    have e2 : (L.map V.str)[ls.length]? = some y1 := e2
    rw [List.getElem?_map] at e2
    obtain ⟨ln, hl, rfl⟩ := Option.map_eq_some_iff.mp e2
    have hlt := (List.getElem?_eq_some_iff.mp hl).1
    have hdr : L.drop ls.length = ln :: L.drop (ls.length + 1) := by
      rw [List.drop_eq_getElem_cons hlt, (List.getElem?_eq_some_iff.mp hl).2]
    rw [hdr] at q2
    have sT := same_new (o := .tup [V.int ls.length, V.str ln]) hT
    refine ⟨Tt, _, rfl, SqT.of upd_same, rfl, _, _, rfl, _, _, rfl, rfl, ?_⟩
    generalize upd G2 Tt (.tup [V.int ls.length, V.str ln]) = G4 at sT ⊢
    unfold fw11 at q2
    refine ⟨_, rfl, _, rfl, _, _, rfl, lo, ln, LA.same (sG.trans sT), ok, rfl, hz ln (List.mem_of_getElem? hl), fun hnone G5 e s5 he => ?_, fun a hsome G5 v s5 La => ?_⟩
    · rw [hnone] at q2
      refine ⟨_, rfl, (by show 0 ≤ sizeLine; decide), fun e2 he2 => ?_⟩
      have t2 := same_new (o := .tup []) he2
      refine ⟨e, e2, [], rfl, rfl, SqT.of (t2 _ _ he), SqT.of upd_same, _, rfl, ?_⟩
      exact ⟨_, rfl, _, _, rfl, rfl, q2 _ (sG.trans (sT.trans (s5.trans t2)))⟩
    rw [hsome] at q2
    have q2 : ∀ H', Same H H' → Q (.int (((if (ls.all fun l => !nearOf (stL lo) l a) = true then fw11 (stL lo) (L.drop (ls.length + 1)) (ls ++ [a]) else ls.length + 1 : Nat)) : Int)) H' := q2
    obtain ⟨ht, aok⟩ := labL_some hsome
    have aL := labOk_L ok aok
    obtain ⟨ta, rfl, hta⟩ := id La
    have hul := labs_len hA
    refine ⟨_, rfl, (by show 0 ≤ sizeLine; decide), fun e2 he2 => ?_⟩
    have t2 := same_new (o := .tup []) he2
    refine ⟨ta, e2, _, rfl, rfl, SqT.of (t2 _ _ hta), SqT.of upd_same, _, rfl, ?_⟩
    generalize upd G5 e2 (.tup []) = G6 at t2 ⊢
    have s46 := s5.trans t2
    have s26 := sT.trans s46
    have hta6 := t2 _ _ hta
    have hD6 := s26 _ _ hDG
    have hA6 := hA.same s26
    refine ⟨_, rfl, ta, _, _, _, rfl, rfl, SqT.of hta6, atI_nat (j := 0) rfl, _, rfl, D, rfl, ⟨_, SqL.of hD6⟩, fun N hN => ?_⟩
    refine lc_fm (walk_list (xs := us)) (fun i => (ls[i]?).bind fun c => some (V.str c.name)) hN (by rw [hul, sizeLine_eq]; omega) (fun H2 s2 => SqL.of (s2 _ _ hD6)) ?_ ?_
    · rintro j v H2x H2 Ky Kn hj s2 ⟨rfl, hv⟩ ky kn
      obtain ⟨c, hc, Lc⟩ := labs_get hA6 hv
      obtain ⟨tc, rfl, htc⟩ := Lc.same s2
      exact ⟨rfl, _, rfl, tc, _, _, _, rfl, rfl, SqT.of htc, atI_nat (j := 0) rfl, ky _ _ (by rw [hc]; rfl) (Same.refl _)⟩
    intro G7 t7 hN7
    have eF : (List.range us.length).filterMap (fun i => (ls[i]?).bind fun c => some (V.str c.name)) = (ls.map Lab.name).map V.str := by
      rw [hul, fm_get, List.map_map]
      exact congrFun (List.filterMap_eq_map (f := fun c : Lab => V.str c.name)) _
    rw [eF] at hN7
    refine ⟨N, _, rfl, .inl (SqL.of hN7), rfl, by simp [flatV], _, rfl, ?_⟩
    have s27 := s26.trans t7
    have nk : ∀ c ∈ ls, nearOf (stL lo) c a = (decide (a.name = c.name) || decide (gapOf a c < farOf (stL lo) (rankP (rkOf (stL lo) a) (rkOf (stL lo) c)))) := fun c _ => by
      rw [near_comm]
      rfl
    have bad : (∃ c ∈ ls, nearOf (stL lo) c a = true) → ∀ H', Same H H' → Q (.int ((ls.length : Nat) + 1)) H' := fun ⟨c, hc, hn⟩ H' s' => by
      have := q2 H' s'
      rw [if_neg] at this
      · exact this
      · intro z
        have := List.all_eq_true.mp z c hc
        rw [hn] at this
        cases this
    have hin : (if false = true then !inV (V.str a.name) ((ls.map Lab.name).map V.str) else inV (V.str a.name) ((ls.map Lab.name).map V.str)) = decide (∃ c ∈ ls, a.name = c.name) := by
      rw [if_neg Bool.false_ne_true]
      unfold inV
      rw [Bool.eq_iff_iff, List.any_eq_true, decide_eq_true_eq]
      constructor
      · rintro ⟨z, hz, e⟩
        obtain ⟨n, hn, rfl⟩ := List.mem_map.mp hz
        obtain ⟨c, hc, rfl⟩ := List.mem_map.mp hn
        exact ⟨c, hc, (beq_iff_eq.mp (show (c.name == a.name) = true from e)).symm⟩
      · rintro ⟨c, hc, e⟩
        exact ⟨V.str c.name, List.mem_map.mpr ⟨_, List.mem_map.mpr ⟨c, hc, rfl⟩, rfl⟩, (show (c.name == a.name) = true from beq_iff_eq.mpr e.symm)⟩
    rw [hin]
    by_cases hnm : ∃ c ∈ ls, a.name = c.name
    · rw [decide_eq_true hnm]
      obtain ⟨c, hc, e⟩ := hnm
      exact ⟨_, rfl, _, _, rfl, rfl, bad ⟨c, hc, by rw [nk c hc, decide_eq_true e]; rfl⟩ _ (sG.trans s27)⟩
    rw [decide_eq_false hnm]
    show if false = true then _ else _
    have hD7 := t7 _ _ hD6
    have hA7 := hA6.same t7
    have La7 : LabAt G7 (.ref ta) a := ⟨ta, rfl, t7 _ _ hta6⟩
    refine ⟨_, rfl, D, rfl, ⟨_, SqL.of hD7⟩, fun N2 hN2 => ?_⟩
    refine lc_fm (walk_list (xs := us)) (fun i => (ls[i]?).bind fun c => some (V.bl (decide (gapOf a c < farOf (stL lo) (rankP (rkOf (stL lo) a) (rkOf (stL lo) c)))))) hN2 (by rw [hul, sizeLine_eq]; omega) (fun H2 s2 => SqL.of (s2 _ _ hD7)) ?_ ?_
    · rintro j v H2x H2 Ky Kn hj s2 ⟨rfl, hv⟩ ky kn
      obtain ⟨c, hc, Lc⟩ := labs_get hA7 hv
      exact ⟨rfl, _, rfl, _, rfl, _, rfl, _, _, _, rfl, lo, a, c, LA.same (sG.trans (s27.trans s2)), ok, La7.same s2, Lc.same s2, aL.kd, labOk_kind (lok c (List.mem_of_getElem? hc)), fun H5 s5 => ky _ _ (by rw [hc]; rfl) s5⟩
    intro G8 t8 hN8
    have eF2 : (List.range us.length).filterMap (fun i => (ls[i]?).bind fun c => some (V.bl (decide (gapOf a c < farOf (stL lo) (rankP (rkOf (stL lo) a) (rkOf (stL lo) c)))))) = (ls.map fun c => decide (gapOf a c < farOf (stL lo) (rankP (rkOf (stL lo) a) (rkOf (stL lo) c)))).map V.bl := by
      rw [hul, fm_get, List.map_map]
      exact congrFun (List.filterMap_eq_map (f := fun c => V.bl (decide (gapOf a c < farOf (stL lo) (rankP (rkOf (stL lo) a) (rkOf (stL lo) c)))))) _
    rw [eF2] at hN8
    refine ⟨N2, _, rfl, SqL.of hN8, _, rfl, ?_⟩
    have s28 := s27.trans t8
    cases hany : (ls.map fun c => decide (gapOf a c < farOf (stL lo) (rankP (rkOf (stL lo) a) (rkOf (stL lo) c)))).any id with
    | true =>
      rw [List.any_map, List.any_eq_true] at hany
      obtain ⟨c, hc1, hc2⟩ := hany
      have hc2 : decide (gapOf a c < farOf (stL lo) (rankP (rkOf (stL lo) a) (rkOf (stL lo) c))) = true := hc2
      exact ⟨_, rfl, _, _, rfl, rfl, bad ⟨c, hc1, by rw [nk c hc1, hc2, Bool.or_true]⟩ _ (sG.trans s28)⟩
    | false =>
      have hall : (ls.all fun l => !nearOf (stL lo) l a) = true := by
        rw [List.all_eq_true]
        intro c hc
        rw [nk c hc, decide_eq_false (fun e => hnm ⟨c, hc, e⟩), Bool.false_or]
        cases e : decide (gapOf a c < farOf (stL lo) (rankP (rkOf (stL lo) a) (rkOf (stL lo) c))) with
        | false => rfl
        | true =>
          rw [List.any_map] at hany
          have := List.any_eq_false.mp hany c hc
          exact absurd e this
      rw [if_pos hall] at q2
      show if false = true then _ else _
      have hD8 := t8 _ _ hD7
      refine ⟨_, rfl, .inl ⟨rfl, _, SqL.of hD8⟩, _, rfl, D, us, _, rfl, rfl, hD8, (by rw [hul, sizeLine_eq]; omega), ?_⟩
      have nD : ∀ b o, H b = some o → b ≠ D := fun b o hb e => by rw [e, hD] at hb; cases hb
      have nl : Nl G8 (upd G8 D (.lst (us ++ [V.ref ta]))) := Nl.lst hD8
      refine ⟨_, _, _, us ++ [.ref ta], ls ++ [a], rfl, fun b o hb => ?_, upd_same, labs_app ((hA7.same t8).nl nl) (.cons ((La7.same t8).nl nl) .nil), by rw [List.length_append]; rfl, fun b hb => ?_, ?_⟩
      · rw [upd_ne (nD b o hb)]
        exact s28 _ _ (sG _ _ hb)
      · rcases List.mem_append.mp hb with hb | hb
        · exact lok b hb
        · rw [List.mem_singleton.mp hb]
          exact aok
      · rw [List.length_append]
        exact q2
  · rintro σ G ⟨o3, o4, o5, us, ls, rfl, sG, hDG, hA, hli, lok, q2⟩
    rw [List.length_map] at hli
    rw [hli, List.drop_length] at q2
    exact q2 _ sG
end
end SK
set_option maxHeartbeats 4000000
namespace SL
open PySem PySem.Spec PyProof.Rows L2
theorem takesNo {X : Cx} : Takes X (fun _ _ _ _ => False) := fun _ _ z => by
  obtain ⟨_, _, _, _, _, _, _, _, _, _, _, _, _, _, _, _, z⟩ := z
  exact z.elim
section
variable {K : PySem.W.Frag}
theorem clsSome {D fI C : Addr} (T : ErrC K D fI C) : (PySem.W.clsIn K C).isSome = true := by
  obtain ⟨cd, hc, _⟩ := PySem.W.any_some T.hdC
  rw [hc]
  rfl
theorem isSelf {C : Addr} : PySem.W.kitOne K (.ref C) (.ref C) = some true := by
  unfold PySem.W.kitOne
  rw [beq_self_eq_true, if_pos rfl]
theorem isVal {D fI C : Addr} (T : ErrC K D fI C) : PySem.W.kitOne K (.ref C) (.type "ValueError") = some true := by
  have e1 : (Value.ref C == Value.type "ValueError") = false := rfl
  have e2 : PySem.W.kitMeta "ValueError" = true := by decide +kernel
  unfold PySem.W.kitOne
  rw [e1, if_neg Bool.false_ne_true]
  unfold PySem.W.kitCls
  dsimp only
  rw [e2, if_pos rfl]
  exact T.vaC
theorem caughtBy {D fI C : Addr} (T : ErrC K D fI C) (TD : ErrC K D fI D) : PySem.W.exmOne K (.ref C) (.ref D) = some true := by
  have hc : PySem.W.kitCls K (.ref C) (.ref D) = some true := by
    unfold PySem.W.kitCls
    dsimp only
    rw [clsSome TD, TD.tyC, if_pos (by rw [beq_self_eq_true, Bool.and_self])]
    have := T.mD
    unfold PySem.W.subIn
    exact this
  unfold PySem.W.exmOne
  rw [TD.exC, if_pos (by decide)]
  exact hc
end
end SL
set_option pp.maxSteps 1500
set_option pp.deepTerms false
set_option maxHeartbeats 4000000
namespace SL
open PySem PySem.Spec PyProof.Rows L2 TL
def signs11 : List Str := sgn " az019-_.,Z"
theorem signs11_ok : signs11.length = 11 ∧ ∀ z ∈ signs11, z.length ≤ 1 ∧ cn11 z := by decide +kernel
def some11 : List Str := ["0", "-0", "01", "-1", "-5", "10", "99999", "100000", "-99999", "a", "", "A", "1.0", "+1"]
theorem some11_ok : ∀ z ∈ some11, z.length ≤ 6 ∧ cn11 z := by decide +kernel
theorem ixN11 {n j : Nat} (hj : j < n) : ixN n (j : Int) = some j := by
  unfold ixN
  rw [if_pos (by omega), if_pos (by omega)]
  simp
theorem wt_set {B k : Nat} {x q : Str} (h : Ln B x) (hk : k < (Txt.split x " ").length) (hq : q.length ≤ B + 1) : wt ((Txt.split x " ").set k q) ≤ 2 * B + 14 := by
  have h1 := wt_take_drop (Txt.split x " ") k
  have h4 := wt_drop_le ((Txt.split x " ").drop k) 1
  rw [List.drop_drop] at h4
  have h2 := split_wt x
  have h3 := h.1
  rw [List.set_eq_take_append_cons_drop, if_pos hk, show q :: (Txt.split x " ").drop (k + 1) = [q] ++ (Txt.split x " ").drop (k + 1) from rfl, wt_app, wt_app, wt_one]
  omega
theorem mem_set {α : Type} {P : α → Prop} {l : List α} {k : Nat} {a : α} (h : ∀ z ∈ l, P z) (ha : P a) : ∀ z ∈ l.set k a, P z := fun z hz => by
  rcases List.mem_or_eq_of_mem_set hz with hz | rfl
  · exact h z hz
  · exact ha
theorem fw11_step {st : RSt} {ln : Str} {r : List Str} {ls : List Lab} {a : Lab} (h1 : tellOf (Txt.split ln " ") = some a) (h2 : canOf st ls a = true) : fw11 st (ln :: r) ls = fw11 st r (ls ++ [a]) := by
  unfold canOf at h2
  rw [Bool.and_eq_true, Bool.and_eq_true] at h2
  have e : labL11 st ln = some a := by
    unfold labL11
    rw [h1]
    show (if labOk st a = true then some a else none) = _
    rw [if_pos h2.2.1]
  rw [fw11, e]
  dsimp only
  rw [if_pos h2.2.2]
theorem fw11_rd {st : RSt} {L : List Str} {ls : List Lab} (h : rdTo st L ls) : ∀ k, k ≤ ls.length → fw11 st L [] = fw11 st (L.drop k) (ls.take k)
  | 0, _ => by rw [List.drop_zero, List.take_zero]
  | k + 1, hk => by
    obtain ⟨⟨ln, hl, ht⟩, hc⟩ := h k ls[k] (List.getElem?_eq_getElem (by omega))
    have hlt := (List.getElem?_eq_some_iff.mp hl).1
    rw [fw11_rd h k (by omega), show L.drop k = ln :: L.drop (k + 1) by rw [List.drop_eq_getElem_cons hlt, (List.getElem?_eq_some_iff.mp hl).2], fw11_step ht hc, List.take_succ_eq_append_getElem (by omega)]
theorem fw11_ok {st : RSt} {L : List Str} {ls : List Lab} (h : rdTo st L ls) (e : ls.length = L.length) : fw11 st L [] = 0 := by
  rw [fw11_rd h ls.length (Nat.le_refl _), e, List.drop_length]
  rfl
theorem fw11_bad {st : RSt} {L : List Str} {ls : List Lab} {ln : Str} (h : rdTo st L ls) (hL : L.length ≤ 30) (hl : L[ls.length]? = some ln) (hb : rdBad st ls ln) : fw11 st L [] = ls.length + 1 := by
  have hlt := (List.getElem?_eq_some_iff.mp hl).1
  rw [fw11_rd h ls.length (Nat.le_refl _), List.take_length, show L.drop ls.length = ln :: L.drop (ls.length + 1) by rw [List.drop_eq_getElem_cons hlt, (List.getElem?_eq_some_iff.mp hl).2], fw11]
  unfold labL11
  rcases hb with hb | ⟨a, ha, hc⟩
  · rw [hb]
    rfl
  · rw [ha]
    show (match (if labOk st a = true then some a else none) with | some a => _ | none => _) = _
    unfold canOf at hc
    rw [decide_eq_true (show ls.length < 30 by omega), Bool.true_and, Bool.and_eq_false_iff] at hc
    by_cases ho : labOk st a = true
    · rw [if_pos ho]
      dsimp only
      rcases hc with hc | hc
      · rw [ho] at hc
        cases hc
      · rw [hc]
        rfl
    · rw [if_neg ho]
def spSpoil11 : Sp := sp2 fun a b H Q _ => ∃ (p L : Addr) (f B : Nat) (ls : List Str), a = .ref p ∧ b = .ref L ∧ Pt p (f + 8) H ∧ H L = some (.lst (ls.map V.str)) ∧ L ≠ p ∧ 0 < ls.length ∧ ls.length ≤ 100 ∧ (∀ z ∈ ls, Ln B z) ∧ 20 ≤ B ∧ B ≤ 570 ∧
  ∀ (L' : Addr) (ls' : List Str) (H' : Hp), Pt p f H' → Kp p H H' → H' L' = some (.lst (ls'.map V.str)) → L' ≠ p → 0 < ls'.length → ls'.length ≤ ls.length + 1 → (∀ z ∈ ls', Ln (2 * B + 14) z) → Q (.ref L') H'
end SL
namespace SK
open PySem PySem.Spec PyProof.Rows L2 SL
section
variable {w : World} {K : PySem.W.Frag} {mg : Str → Option Value} {base : Heap}
abbrev n_law_spoilt : List Str := ["_law_pot_here", "_law_lines", "_law_words", "_law_put", "_law_found", "_law_way", "_law_at", "_law_to", "_law_spot", "_law_sign", "_law_some", "_law_line"]
theorem sc_law_spoilt : FnScope n_law_spoilt ["_law_pot_here", "_law_lines"] (defScope d_law_spoilt) := ⟨rfl, rfl, rfl, by decide +kernel, rfl, by decide +kernel, by decide +kernel⟩
theorem ok_law_spoilt (T : Top w K mg) : Has prg w K mg base CX0 5 (He.ga K "_law_spoilt") ["_law_pot_here", "_law_lines"] spSpoil11 := by
  obtain ⟨fd, F⟩ := T.F_law_spoilt
  obtain ⟨fd_law_take, G_law_take, b_law_take, k_law_take⟩ := ok_law_take (base := base) T
  obtain ⟨fd_law_of, G_law_of, b_law_of, k_law_of⟩ := ok_law_of (base := base) T
  refine ⟨fd, F.ok (k := 4) sc_law_spoilt (fun _ _ _ _ h => sp2_len h) (fun cdv A outer s H vs Q E hr h => ?_), F.bindsN (fun _ _ _ _ _ _ us hl => match us, hl with | [_, _], _ => rfl), F.kp⟩
  obtain ⟨v0, v1, rfl, h⟩ := h
  refine ⟨_, PSs.nox (pss_cons (ps_par (i := 4) (j := 5) (by rfl) sc_law_spoilt.nd rfl rfl (by decide) rfl rfl (pa_cons (pe_callTy call_list_of (by rfl) T.b_list boot_list (pa_cons (pv 1) pa_nil)) (pa_cons (pe_call G_law_take (hr.mono (by decide)) (by rfl) T.g_law_take k_law_take b_law_take .nil pass0 (pa_cons (pv 0) (pa_cons pe_int pa_nil))) pa_nil)) (by rfl))
    (pss_cons (ps_par (i := 6) (j := 7) (by rfl) sc_law_spoilt.nd rfl rfl (by decide) rfl rfl (pa_cons (pe_call G_law_take (hr.mono (by decide)) (by rfl) T.g_law_take k_law_take b_law_take .nil pass0 (pa_cons (pv 0) (pa_cons (pe_callB call_len (by rfl) T.b_len (by decide +kernel) (pa_cons (pv 4) pa_nil)) pa_nil))) (pa_cons (pe_call G_law_take (hr.mono (by decide)) (by rfl) T.g_law_take k_law_take b_law_take .nil pass0 (pa_cons (pv 0) (pa_cons (pe_op op_add (pe_callB call_len (by rfl) T.b_len (by decide +kernel) (pa_cons (pv 4) pa_nil)) pe_int) pa_nil))) pa_nil)) (by rfl))
    (pss_cons (ps_set (i := 2) sc_law_spoilt.nd rfl (Or.inl rfl) (pe_split (pe_ix ix_list (pv 4) (pv 6) (fun _ _ => rfl)) pe_str))
    (pss_cons (ps_par (i := 8) (j := 9) (by rfl) sc_law_spoilt.nd rfl rfl (by decide) rfl rfl (pa_cons (pe_call G_law_take (hr.mono (by decide)) (by rfl) T.g_law_take k_law_take b_law_take .nil pass0 (pa_cons (pv 0) (pa_cons (pe_op op_add (pe_callB call_len (by rfl) T.b_len (by decide +kernel) (pa_cons (pe_ix ix_list (pv 4) (pv 6) (fun _ _ => rfl)) pa_nil)) pe_int) pa_nil))) (pa_cons (pe_call G_law_of (hr.mono (by decide)) (by rfl) T.g_law_of k_law_of b_law_of .nil pass0 (pa_cons (pv 0) (pa_cons (pe_callTy (call_listS (by rfl)) (by rfl) T.b_list boot_list (pa_cons pe_str pa_nil)) pa_nil))) pa_nil)) (by rfl))
    (pss_cons (ps_set (i := 3) sc_law_spoilt.nd rfl (Or.inl rfl) (pe_call G_law_take (hr.mono (by decide)) (by rfl) T.g_law_take k_law_take b_law_take .nil pass0 (pa_cons (pv 0) (pa_cons (pe_callB call_len (by rfl) T.b_len (by decide +kernel) (pa_cons (pv 2) pa_nil)) pa_nil))))
    (pss_cons (ps_if (pt_cmpR op_lt (pv 5) pe_int (nomark _)) (pss_cons (ps_set (i := 10) sc_law_spoilt.nd rfl (Or.inl rfl) (pe_lst (pa_cons pe_str (pa_cons pe_str (pa_cons pe_str (pa_cons pe_str (pa_cons pe_str (pa_cons pe_str (pa_cons pe_str (pa_cons pe_str (pa_cons pe_str (pa_cons pe_str (pa_cons pe_str (pa_cons pe_str (pa_cons pe_str (pa_cons pe_str pa_nil))))))))))))))))
    (pss_cons (ps_asg (pe_call G_law_of (hr.mono (by decide)) (by rfl) T.g_law_of k_law_of b_law_of .nil pass0 (pa_cons (pv 0) (pa_cons (pe_op op_cat (pv 10) (pe_lst (pa_cons (pe_ix ix_list (pv 2) (pe_op op_mod (pe_callTy call_int1 (by rfl) T.b_int boot_int (pa_cons (pe_op op_add (pv 3) pe_int) pa_nil)) (pe_callB call_len (by rfl) T.b_len (by decide +kernel) (pa_cons (pv 2) pa_nil))) (fun _ _ => rfl)) pa_nil))) pa_nil))) (pg_sub (pv 2) (pv 3) set_list))
    (pss_one (ps_asg (pe_join pe_str (pv 2)) (pg_sub (pv 4) (pv 6) set_list))))) (pss_one (ps_if (pt_cmpR op_eq (pv 5) pe_int (nomark _)) (pss_one (ps_asg (pe_join pe_str (pe_op op_cat (pe_op op_cat (pe_slice sl_list (pv 2) po_none (po_some (pv 3))) (pe_lst (pa_cons (pe_call G_law_of (hr.mono (by decide)) (by rfl) T.g_law_of k_law_of b_law_of .nil pass0 (pa_cons (pv 0) (pa_cons (pv 2) pa_nil))) pa_nil))) (pe_slice sl_list (pv 2) (po_some (pv 3)) po_none))) (pg_sub (pv 4) (pv 6) set_list))) (pss_one (ps_if (pt_cmpR op_eq (pv 5) pe_int (nomark _)) (pss_one (ps_asg (pe_join pe_str (pe_op op_cat (pe_slice sl_list (pv 2) po_none (po_some (pv 3))) (pe_slice sl_list (pv 2) (po_some (pe_op op_add (pv 3) pe_int)) po_none))) (pg_sub (pv 4) (pv 6) set_list))) (pss_one (ps_if (pt_cmpR op_lt (pv 5) pe_int (nomark _)) (pss_cons (ps_set (i := 11) sc_law_spoilt.nd rfl (Or.inl rfl) (pe_ix ix_list (pv 4) (pv 6) (fun _ _ => rfl)))
    (pss_one (ps_asg (pe_op op_add_str (pe_op op_add_str (pe_slice sl_str (pv 11) po_none (po_some (pv 8))) (pv 9)) (pe_slice sl_str (pv 11) (po_some (pe_op op_add (pv 8) (pe_call G_law_take (hr.mono (by decide)) (by rfl) T.g_law_take k_law_take b_law_take .nil pass0 (pa_cons (pv 0) (pa_cons pe_int pa_nil))))) po_none)) (pg_sub (pv 4) (pv 6) set_list)))) (pss_one (ps_if (pt_cmpR op_eq (pv 5) pe_int (nomark _)) (pss_one (ps_expr (pe_bm PySem.F.plainAttrs_list PySem.F.slot_list_insert PySem.F.type_list_insert mt_insert (pv 4) (pa_cons (pv 7) (pa_cons (pe_call G_law_of (hr.mono (by decide)) (by rfl) T.g_law_of k_law_of b_law_of .nil pass0 (pa_cons (pv 0) (pa_cons (pe_lst (pa_cons (pe_ix ix_list (pv 4) (pv 6) (fun _ _ => rfl)) (pa_cons pe_str (pa_cons pe_str (pa_cons (pe_op op_add_str pe_str (pe_ix ix_list (pv 4) (pv 6) (fun _ _ => rfl))) pa_nil))))) pa_nil))) pa_nil))))) (pss_one (ps_set (i := 4) sc_law_spoilt.nd rfl (Or.inl rfl) (pe_op op_cat (pe_op op_cat (pe_slice sl_list (pv 4) po_none (po_some (pv 6))) (pe_slice sl_list (pv 4) (po_some (pe_op op_add (pv 6) pe_int)) po_none)) (pe_lst (pa_cons (pe_ix ix_list (pv 4) (pv 6) (fun _ _ => rfl)) pa_nil))))))))))))))
    (pss_one (ps_ret (pv 4))))))))), ?_⟩
  obtain ⟨p, L, f, B, ls, rfl, rfl, hp, hL, nL, hlp, hl1, hln, hB1, hB2, q⟩ := h
  refine ⟨_, rfl, L, _, rfl, .inl (SqL.of hL), fun F hF => ?_⟩
  have s1 : Same H (upd H F (.lst (ls.map V.str))) := same_new hF
  have hF1 : upd H F (.lst (ls.map V.str)) F = some (.lst (ls.map V.str)) := upd_same
  have nF := hp.ne hF
  generalize upd H F (.lst (ls.map V.str)) = H1 at s1 hF1 ⊢
  refine ⟨_, rfl, take_q (f := f + 7) (hp.same s1) (by decide) (by decide) fun way H2 w0 w1 hp2 k2 => ⟨_, _, rfl, ?_⟩⟩
  have hF2 := k2 _ _ nF hF1
  refine ⟨_, rfl, _, rfl, _, ls.length, rfl, .inl ⟨_, SqL.of hF2, by rw [List.length_map]⟩, take_q (f := f + 6) hp2 (by omega) (by omega) fun at' H3 a0 a1 hp3 k3 => ?_⟩
  obtain ⟨k, rfl⟩ := Int.eq_ofNat_of_zero_le a0
  have hF3 := k3 _ _ nF hF2
  have hk : k < ls.length := by omega
  refine ⟨_, rfl, _, rfl, _, ls.length, rfl, .inl ⟨_, SqL.of hF3, by rw [List.length_map]⟩, _, _, rfl, rfl, take_q (f := f + 5) hp3 (by omega) (by omega) fun to' H4 b0 b1 hp4 k4 => ⟨_, _, rfl, ?_⟩⟩
  obtain ⟨m, rfl⟩ := Int.eq_ofNat_of_zero_le b0
  have hF4 := k4 _ _ nF hF3
  obtain ⟨z, hzk, hzm, hzv⟩ := get_str hk
  have hz := hln z hzm
  have hzl := hz.1
  obtain ⟨c1, c2, c3⟩ := split_bounds (y := " ") (s := 32) (by decide +kernel) (by decide +kernel) z
  refine ⟨_, rfl, _, rfl, F, _, _, V.str z, rfl, rfl, SqL.of hF4, atI_nat hzv, ⟨_, rfl⟩, _, _, rfl, rfl, by decide, Nat.le_trans (show z.length + 2 ≤ 1000 by omega) (by decide), fun W hW => ?_⟩
  have s5 : Same H4 (upd H4 W (.lst ((Txt.split z " ").map V.str))) := same_new hW
  have hW5 : upd H4 W (.lst ((Txt.split z " ").map V.str)) W = some (.lst ((Txt.split z " ").map V.str)) := upd_same
  have nW := hp4.ne hW
  have nFW : F ≠ W := fun e => by rw [e, hW] at hF4; cases hF4
  have hHW : H W = none := by
    cases e : H W with
    | none => rfl
    | some o =>
      have h4 := (((Kp.of s1).trans k2).trans (k3.trans k4)) _ _ nW e
      rw [hW] at h4
      cases h4
  generalize upd H4 W (.lst ((Txt.split z " ").map V.str)) = H5 at s5 hW5 ⊢
  have hF5 := s5 _ _ hF4
  refine ⟨_, rfl, _, rfl, _, rfl, F, _, _, V.str z, rfl, rfl, SqL.of hF5, atI_nat hzv, _, z.length, rfl, ⟨Nat.le_trans (show z.length ≤ 1000 by omega) (by decide), rfl⟩, _, _, rfl, rfl, take_q (f := f + 4) (hp4.same s5) (by omega) (by omega) fun spot H6 d0 d1 hp6 k6 => ?_⟩
  obtain ⟨j, rfl⟩ := Int.eq_ofNat_of_zero_le d0
  have hF6 := k6 _ _ nF hF5
  have hW6 := k6 _ _ nW hW5
  refine ⟨_, rfl, _, rfl, Nat.le_trans (show (" az019-_.,Z" : Str).length ≤ 100 by decide +kernel) (by decide), fun e1 he1 => ?_⟩
  have s7 := same_new (o := .lst (signs11.map V.str)) he1
  refine of_q (f := f + 3) (hp6.same s7) upd_same (hp6.ne he1) (by show 0 < (signs11.map V.str).length; rw [List.length_map, signs11_ok.1]; decide) (by show (signs11.map V.str).length ≤ _; rw [List.length_map, signs11_ok.1]; decide) fun sv H7 hsv hp7 k7 => ⟨_, _, rfl, ?_⟩
  obtain ⟨sg, hsg, rfl⟩ := List.mem_map.mp (show sv ∈ signs11.map V.str from hsv)
  have hsg := signs11_ok.2 sg hsg
  have k67 : Kp p H6 H7 := (Kp.of s7).trans k7
  have hF7 := k67 _ _ nF hF6
  have hW7 := k67 _ _ nW hW6
  have hws := split_ln hz
  have wn : ∀ p ∈ Txt.split z " ", cn11 p := fun p hp => (hws p hp).2
  have put11 : ∀ {n : Nat} {q : Str}, n < (Txt.split z " ").length → q.length ≤ B + 1 → wt ((Txt.split z " ").set n q) ≤ 2 * B + 14 := fun h1 h2 => wt_set hz h1 h2
  have more11 : ∀ {n : Nat} {q : Str}, q.length ≤ B + 1 → wt ((Txt.split z " ").take n ++ [q] ++ (Txt.split z " ").drop n) ≤ 2 * B + 14 := fun h2 => wt_more hz h2
  have less11 : ∀ {n : Nat}, wt ((Txt.split z " ").take n ++ (Txt.split z " ").drop (n + 1)) ≤ 2 * B + 14 := wt_less hz
  have hlen : 0 < (Txt.split z " ").length := List.length_pos_iff.mpr c2
  generalize hwse : Txt.split z " " = ws at hW5 hW6 hW7 hws wn c1 c2 c3 hlen put11 more11 less11
  refine ⟨_, rfl, _, rfl, _, ws.length, rfl, .inl ⟨_, SqL.of hW7, by rw [List.length_map]⟩, take_q (f := f + 2) hp7 (by omega) (by omega) fun put H8 p0 p1 hp8 k8 => ?_⟩
  obtain ⟨n, rfl⟩ := Int.eq_ofNat_of_zero_le p0
  have hn : n < ws.length := by omega
  have hF8 := k8 _ _ nF hF7
  have hW8 := k8 _ _ nW hW7
  have kp8 : Kp p H H8 := ((((Kp.of s1).trans k2).trans (k3.trans k4)).trans ((Kp.of s5).trans k6)).trans (k67.trans k8)
  have sp1 : (" " : Str).length = 1 := by decide +kernel
  have big : ∀ y ∈ ls, Ln (2 * B + 14) y := fun y hy => (hln y hy).mono (by omega)
  have upP : ∀ {G : Hp} {A : Addr} {o : HO} {g : Nat}, Pt p g G → A ≠ p → Pt p g (upd G A o) := fun {G A o g} ⟨l, h1, h2⟩ h => ⟨l, by rw [upd_ne (Ne.symm h)]; exact h1, h2⟩
  have upK : ∀ {G : Hp} {A : Addr} {o : HO}, Kp p H G → H A = none → Kp p H (upd G A o) := fun {G A o} kk h b o' nb hb => by
    rw [upd_ne (ne_of_none hb h)]
    exact kk b o' nb hb
  have hHF : H F = none := hF
  have fin : ∀ (G : Hp) (y : Str), Pt p f G → Kp p H G → G F = some (.lst (ls.map V.str)) → Ln (2 * B + 14) y → Q (.ref F) (upd G F (.lst ((ls.map V.str).set k (V.str y)))) := fun G y g1 g2 g3 g4 => by
    rw [← List.map_set]
    refine q F (ls.set k y) _ (upP g1 nF) (upK g2 hHF) upd_same nF (by rw [List.length_set]; exact hlp) (by rw [List.length_set]; omega) (mem_set big g4)
  have ixk : ixN (ls.map V.str).length (k : Int) = some k := by
    rw [List.length_map]
    exact ixN11 hk
  refine ⟨_, rfl, _, _, rfl, rfl, _, rfl, ?_⟩
  by_cases h3 : way < 3
  · rw [decide_eq_true h3]
    refine ⟨(by show 14 ≤ sizeLine; decide), fun a1 ha1 => ?_⟩
    have t1 : Same H8 (upd H8 a1 (.lst (some11.map V.str))) := same_new ha1
    have hA1 : upd H8 a1 (.lst (some11.map V.str)) a1 = some (.lst (some11.map V.str)) := upd_same
    have nA := hp8.ne ha1
    show gName 10 _ _ (upd H8 a1 (.lst (some11.map V.str))) _
    generalize upd H8 a1 (.lst (some11.map V.str)) = G1 at t1 hA1 ⊢
    have hW9 := t1 _ _ hW8
    have hjm : (n + 1) % ws.length < ws.length := Nat.mod_lt _ hlen
    obtain ⟨pw, hpk, hpm, hpv⟩ := get_str hjm
    have emod : ((n : Int) + 1) % (ws.length : Nat) = (((n + 1) % ws.length : Nat) : Int) := by
      rw [Int.natCast_emod]
      rfl
    refine ⟨_, rfl, _, rfl, _, rfl, _, rfl, _, _, rfl, rfl, .inl ⟨_, rfl, _, rfl, _, ws.length, rfl, .inl ⟨_, SqL.of hW9, by rw [List.length_map]⟩, _, _, rfl, rfl, by omega, ?_⟩⟩
    refine ⟨W, _, _, V.str pw, rfl, rfl, SqL.of hW9, (by rw [emod]; exact atI_nat hpv), (by show 1 ≤ sizeLine; decide), fun b hb => ?_⟩
    have t2 : Same G1 (upd G1 b (.lst [V.str pw])) := same_new hb
    refine ⟨a1, b, _, _, rfl, rfl, t2 _ _ hA1, upd_same, (by show 15 ≤ sizeLine; decide), fun c hc => ?_⟩
    have t3 := t2.trans (same_new (o := .lst (some11.map V.str ++ [V.str pw])) hc)
    have hp9 := hp8.same (t1.trans t2)
    refine of_q (f := f) ((hp8.same (t1.trans t3)).mono (by omega)) upd_same (hp9.ne hc) (by show 0 < 15; decide) (by show 15 ≤ 1000000; decide) fun x G2 hx hp10 k10 => ?_
    obtain ⟨y, rfl, hy1, hy2⟩ : ∃ y, x = V.str y ∧ y.length ≤ B + 1 ∧ cn11 y := by
      rcases List.mem_append.mp hx with hx | hx
      · obtain ⟨y, hy, rfl⟩ := List.mem_map.mp hx
        have := some11_ok y hy
        exact ⟨y, rfl, by omega, this.2⟩
      · rw [List.mem_singleton.mp hx]
        exact ⟨pw, rfl, Nat.le_succ_of_le (hws pw hpm).1, wn pw hpm⟩
    have k18 : Kp p H8 G2 := (Kp.of (t1.trans t3)).trans k10
    have hW10 := k18 _ _ nW hW8
    have hF10 := k18 _ _ nF hF8
    refine ⟨_, rfl, _, rfl, W, _, _, n, rfl, rfl, hW10, by rw [List.length_map]; exact ixN11 hn, ?_⟩
    have eW : upd G2 W (.lst ((ws.map V.str).set n (V.str y))) W = some (.lst ((ws.set n y).map V.str)) := by rw [upd_same, List.map_set]
    have eF : upd G2 W (.lst ((ws.map V.str).set n (V.str y))) F = some (.lst (ls.map V.str)) := by rw [upd_ne nFW]; exact hF10
    have hpW := upP (o := .lst ((ws.map V.str).set n (V.str y))) hp10 nW
    have kW := upK (o := .lst ((ws.map V.str).set n (V.str y))) (kp8.trans k18) hHW
    generalize upd G2 W (.lst ((ws.map V.str).set n (V.str y))) = G3 at eW eF hpW kW ⊢
    have hwt := put11 hn hy1
    refine ⟨⟨_, rfl⟩, _, rfl, _, W, _, rfl, rfl, .inl (SqL.of eW), ?_, _, rfl, _, rfl, F, _, _, k, rfl, rfl, eF, ixk, _, rfl, ?_⟩
    · rw [wt_sum]
      omega
    · exact fin _ _ hpW kW eF (join_ln hwt (mem_set wn hy2))
  rw [decide_eq_false h3]
  refine ⟨_, rfl, rfl, _, rfl, ?_⟩
  by_cases h4 : V.int way = V.int 3
  · rw [decide_eq_true h4]
    refine ⟨⟨_, rfl⟩, _, rfl, _, rfl, _, rfl, W, _, rfl, SqL.of hW8, fun c1 hc1 => ?_⟩
    rw [cutT]
    have t1 : Same H8 (upd H8 c1 (.lst ((ws.take n).map V.str))) := same_new hc1
    have e1 : upd H8 c1 (.lst ((ws.take n).map V.str)) c1 = some (.lst ((ws.take n).map V.str)) := upd_same
    have n1 := hp8.ne hc1
    generalize upd H8 c1 (.lst ((ws.take n).map V.str)) = G1 at t1 e1 ⊢
    refine ⟨_, rfl, _, rfl, of_q (f := f) ((hp8.same t1).mono (by omega)) (t1 _ _ hW8) nW (by rw [List.length_map]; exact hlen) (by rw [List.length_map]; omega) fun x G2 hx hp10 k10 => ?_⟩
    obtain ⟨y, hy, rfl⟩ := List.mem_map.mp hx
    refine ⟨(by show 1 ≤ sizeLine; decide), fun c2 hc2 => ?_⟩
    have t2 : Same G2 (upd G2 c2 (.lst [V.str y])) := same_new hc2
    refine ⟨c1, c2, _, _, rfl, rfl, t2 _ _ (k10 _ _ n1 e1), upd_same, ?_, fun c3 hc3 => ?_⟩
    · rw [List.length_map, List.length_take, List.length_singleton, sizeLine_eq]
      omega
    have t3 := same_new (o := .lst ((ws.take n).map V.str ++ [V.str y])) hc3
    have e3 := (show upd (upd G2 c2 (.lst [V.str y])) c3 (.lst ((ws.take n).map V.str ++ [V.str y])) c3 = _ from upd_same)
    have t23 := t2.trans t3
    generalize upd (upd G2 c2 (.lst [V.str y])) c3 (.lst ((ws.take n).map V.str ++ [V.str y])) = G3 at t23 e3 ⊢
    have hW10 := t23 _ _ (k10 _ _ nW (t1 _ _ hW8))
    refine ⟨_, rfl, _, rfl, _, rfl, W, _, rfl, SqL.of hW10, fun c4 hc4 => ?_⟩
    rw [SL.cutD]
    have t4 := same_new (o := .lst ((ws.drop n).map V.str)) hc4
    refine ⟨c3, c4, _, _, rfl, rfl, t4 _ _ e3, upd_same, ?_, fun c5 hc5 => ?_⟩
    · rw [List.length_append, List.length_map, List.length_map, List.length_take, List.length_drop, List.length_singleton, sizeLine_eq]
      omega
    rw [map3]
    have t5 := t4.trans (same_new (o := .lst ((ws.take n ++ [y] ++ ws.drop n).map V.str)) hc5)
    have t25 := t23.trans t5
    have hF10 := t25 _ _ (k10 _ _ nF (t1 _ _ hF8))
    have hwt := more11 (n := n) (q := y) (Nat.le_succ_of_le (hws y hy).1)
    refine ⟨_, c5, _, rfl, rfl, .inl (SqL.of upd_same), ?_, _, rfl, _, rfl, F, _, _, k, rfl, rfl, hF10, ixk, _, rfl, ?_⟩
    · rw [wt_sum]
      omega
    · exact fin _ _ (hp10.same t25) (kp8.trans ((Kp.of t1).trans (k10.trans (Kp.of t25)))) hF10 (join_ln hwt (ext_sub (fun _ h => List.mem_of_mem_take h) (fun _ h => List.mem_of_mem_drop h) wn (wn y hy)))
  rw [decide_eq_false h4]
  refine ⟨_, rfl, rfl, _, rfl, ?_⟩
  by_cases h5 : V.int way = V.int 4
  · rw [decide_eq_true h5]
    refine ⟨⟨_, rfl⟩, _, rfl, _, rfl, _, rfl, W, _, rfl, SqL.of hW8, fun c1 hc1 => ?_⟩
    rw [cutT]
    have t1 : Same H8 (upd H8 c1 (.lst ((ws.take n).map V.str))) := same_new hc1
    have e1 : upd H8 c1 (.lst ((ws.take n).map V.str)) c1 = some (.lst ((ws.take n).map V.str)) := upd_same
    generalize upd H8 c1 (.lst ((ws.take n).map V.str)) = G1 at t1 e1 ⊢
    refine ⟨_, rfl, _, rfl, _, _, rfl, rfl, ((n + 1 : Nat) : Int), rfl, W, _, rfl, SqL.of (t1 _ _ hW8), fun c4 hc4 => ?_⟩
    rw [SL.cutD]
    have t4 := same_new (o := .lst ((ws.drop (n + 1)).map V.str)) hc4
    refine ⟨c1, c4, _, _, rfl, rfl, t4 _ _ e1, upd_same, ?_, fun c5 hc5 => ?_⟩
    · rw [List.length_map, List.length_map, List.length_take, List.length_drop, sizeLine_eq]
      omega
    rw [map2]
    have t5 := t1.trans (t4.trans (same_new (o := .lst ((ws.take n ++ ws.drop (n + 1)).map V.str)) hc5))
    have hF10 := t5 _ _ hF8
    have hwt := less11 (n := n)
    refine ⟨_, c5, _, rfl, rfl, .inl (SqL.of upd_same), ?_, _, rfl, _, rfl, F, _, _, k, rfl, rfl, hF10, ixk, _, rfl, ?_⟩
    · rw [wt_sum]
      omega
    · refine fin _ _ ((hp8.same t5).mono (by omega)) (kp8.trans (Kp.of t5)) hF10 (join_ln hwt fun y hy => ?_)
      rcases List.mem_append.mp hy with hy | hy
      · exact wn y (List.mem_of_mem_take hy)
      · exact wn y (List.mem_of_mem_drop hy)
  rw [decide_eq_false h5]
  refine ⟨_, rfl, _, _, rfl, rfl, _, rfl, ?_⟩
  by_cases h6 : way < 7
  · rw [decide_eq_true h6]
    have zs : z.length ≤ sizeLine := Nat.le_trans (show z.length ≤ 1000 by omega) (by decide)
    have l1 := cutS_length z none (some (j : Int))
    refine ⟨_, rfl, _, rfl, F, _, _, V.str z, rfl, rfl, SqL.of hF8, atI_nat hzv, ?_⟩
    refine ⟨_, rfl, _, rfl, _, rfl, z, rfl, zs, _, rfl, _, _, rfl, rfl, ?_, _, rfl, _, rfl, _, rfl, take_q (f := f) (hp8.mono (by omega)) (by decide) (by decide) fun g G7 g0 g1 hp9 k9 => ?_⟩
    · rw [sizeLine_eq]
      omega
    obtain ⟨g, rfl⟩ := Int.eq_ofNat_of_zero_le g0
    have l2 := cutS_length z (some ((j + g : Nat) : Int)) none
    have hF10 := k9 _ _ nF hF8
    refine ⟨_, _, rfl, rfl, ((j + g : Nat) : Int), rfl, z, rfl, zs, _, _, rfl, rfl, ?_, _, rfl, _, rfl, F, _, _, k, rfl, rfl, hF10, ixk, _, rfl, ?_⟩
    · rw [sizeLine_eq, len_app]
      omega
    · exact fin _ _ hp9 (kp8.trans k9) hF10 (ln_sign (k := j) (j := j + g) hz hsg (by omega))
  rw [decide_eq_false h6]
  refine ⟨_, rfl, rfl, _, rfl, ?_⟩
  by_cases h7 : V.int way = V.int 7
  · rw [decide_eq_true h7]
    have el : (" label" : Str).length = 6 := by decide +kernel
    have el2 : ("label " : Str).length = 6 ∧ cn11 "label " := by decide +kernel
    refine ⟨_, rfl, .inl ⟨rfl, _, SqL.of hF8⟩, _, rfl, _, rfl, _, rfl, _, rfl, F, _, _, V.str z, rfl, rfl, SqL.of hF8, atI_nat hzv, _, rfl, _, rfl, F, _, _, V.str z, rfl, rfl, SqL.of hF8, atI_nat hzv, _, _, rfl, rfl, ?_, (by show 4 ≤ sizeLine; decide), fun S hS => ?_⟩
    · rw [el2.1, sizeLine_eq]
      omega
    have t1 : Same H8 (upd H8 S (.lst [V.str z, V.str "", V.str " ", V.str ("label " ++ z)])) := same_new hS
    refine of_q (f := f) ((hp8.same t1).mono (by omega)) upd_same (hp8.ne hS) (by show 0 < 4; decide) (by show 4 ≤ 1000000; decide) fun x G2 hx hp10 k10 => ?_
    have k18 : Kp p H8 G2 := (Kp.of t1).trans k10
    have hF10 := k18 _ _ nF hF8
    obtain ⟨y, rfl, hy⟩ : ∃ y, x = V.str y ∧ Ln (2 * B + 14) y := by
      simp only [List.mem_cons, List.not_mem_nil, or_false] at hx
      rcases hx with rfl | rfl | rfl | rfl
      · exact ⟨_, rfl, hz.mono (by omega)⟩
      · exact ⟨_, rfl, Nat.zero_le _, by decide +kernel⟩
      · exact ⟨_, rfl, by rw [sp1]; omega, by decide +kernel⟩
      · refine ⟨_, rfl, by rw [len_app, el2.1]; omega, fun c h => ?_⟩
        rw [tl_app] at h
        rcases List.mem_append.mp h with h | h
        · exact el2.2 c h
        · exact hz.2 c h
    refine ⟨F, _, _, _, rfl, rfl, hF10, by rw [List.length_map, sizeLine_eq]; omega, by omega, by omega, _, rfl, ?_⟩
    rw [Int.toNat_natCast, show (ls.map V.str).take m ++ [V.str y] ++ (ls.map V.str).drop m = (ls.take m ++ [y] ++ ls.drop m).map V.str by simp]
    refine q F _ _ (upP hp10 nF) (upK (kp8.trans k18) hHF) upd_same nF ?_ ?_ fun u hu => ?_
    · rw [List.length_append, List.length_append, List.length_singleton]
      omega
    · rw [List.length_append, List.length_append, List.length_take, List.length_drop, List.length_singleton]
      omega
    · rcases List.mem_append.mp hu with hu | hu
      · rcases List.mem_append.mp hu with hu | hu
        · exact big u (List.mem_of_mem_take hu)
        · rw [List.mem_singleton.mp hu]
          exact hy
      · exact big u (List.mem_of_mem_drop hu)
  rw [decide_eq_false h7]
  refine ⟨_, rfl, _, rfl, _, rfl, F, _, rfl, SqL.of hF8, fun c1 hc1 => ?_⟩
  rw [cutT]
  have t1 : Same H8 (upd H8 c1 (.lst ((ls.take k).map V.str))) := same_new hc1
  have e1 : upd H8 c1 (.lst ((ls.take k).map V.str)) c1 = some (.lst ((ls.take k).map V.str)) := upd_same
  generalize upd H8 c1 (.lst ((ls.take k).map V.str)) = G1 at t1 e1 ⊢
  refine ⟨_, rfl, _, rfl, _, _, rfl, rfl, ((k + 1 : Nat) : Int), rfl, F, _, rfl, SqL.of (t1 _ _ hF8), fun c4 hc4 => ?_⟩
  rw [SL.cutD]
  have t4 := same_new (o := .lst ((ls.drop (k + 1)).map V.str)) hc4
  refine ⟨c1, c4, _, _, rfl, rfl, t4 _ _ e1, upd_same, ?_, fun c5 hc5 => ?_⟩
  · rw [List.length_map, List.length_map, List.length_take, List.length_drop, sizeLine_eq]
    omega
  rw [map2]
  have t5 := t1.trans (t4.trans (same_new (o := .lst ((ls.take k ++ ls.drop (k + 1)).map V.str)) hc5))
  have e5 := (show upd (upd G1 c4 (.lst ((ls.drop (k + 1)).map V.str))) c5 (.lst ((ls.take k ++ ls.drop (k + 1)).map V.str)) c5 = _ from upd_same)
  generalize upd (upd G1 c4 (.lst ((ls.drop (k + 1)).map V.str))) c5 (.lst ((ls.take k ++ ls.drop (k + 1)).map V.str)) = G5 at t5 e5 ⊢
  have hF10 := t5 _ _ hF8
  refine ⟨_, rfl, _, rfl, F, _, _, V.str z, rfl, rfl, SqL.of hF10, atI_nat hzv, (by show 1 ≤ sizeLine; decide), fun c6 hc6 => ?_⟩
  have t6 := same_new (o := .lst [V.str z]) hc6
  refine ⟨c5, c6, _, _, rfl, rfl, t6 _ _ e5, upd_same, ?_, fun c7 hc7 => ?_⟩
  · rw [List.length_map, List.length_append, List.length_take, List.length_drop, List.length_singleton, sizeLine_eq]
    omega
  rw [show (ls.take k ++ ls.drop (k + 1)).map V.str ++ [V.str z] = (ls.take k ++ ls.drop (k + 1) ++ [z]).map V.str by simp]
  have t7 := t5.trans (t6.trans (same_new (o := .lst ((ls.take k ++ ls.drop (k + 1) ++ [z]).map V.str)) hc7))
  refine ⟨_, rfl, q c7 _ _ ((hp8.same t7).mono (by omega)) (kp8.trans (Kp.of t7)) upd_same ((hp8.same (t5.trans t6)).ne hc7) ?_ ?_ fun y hy => ?_⟩
  · rw [List.length_append, List.length_singleton]
    omega
  · rw [List.length_append, List.length_append, List.length_take, List.length_drop, List.length_singleton]
    omega
  · rcases List.mem_append.mp hy with hy | hy
    · rcases List.mem_append.mp hy with hy | hy
      · exact big y (List.mem_of_mem_take hy)
      · exact big y (List.mem_of_mem_drop hy)
    · rw [List.mem_singleton.mp hy]
      exact hz.mono (by omega)
def spTold11 (K : PySem.W.Frag) : Sp := sp2 fun sv v H Q _ => ∃ (x : Str) (st : RSt), StAt K H sv x st ∧ (∃ n, Kn H v n) ∧ (isStrV v = false → ∀ H', Same H H' → Q (.str "0") H') ∧
  ∀ z, v = .str z → z.length ≤ 100000 ∧ (∀ ln ∈ linesIn z, ln.length ≤ 640) ∧ (30 < (linesIn z).length → ∀ H', Same H H' → Q (.str "0") H') ∧
    ((linesIn z).length ≤ 30 → ∀ H', Same H H' → Q (.str (if fw11 st (linesIn z) [] = 0 then "" else numS ((fw11 st (linesIn z) [] : Nat) : Int))) H')
abbrev n_law_told : List Str := ["_law_style", "_law_value", "_law_caught", "error"]
theorem sc_law_told : FnScope n_law_told ["_law_style", "_law_value"] (defScope d_law_told) := ⟨rfl, rfl, rfl, by decide +kernel, rfl, by decide +kernel, by decide +kernel⟩
theorem ok_law_told (T : Top w K mg) : Has prg w K mg base CX0 12 (He.ga K "_law_told") ["_law_style", "_law_value"] (spTold11 K) := by
  obtain ⟨fd, F⟩ := T.F_law_told
  obtain ⟨fd_read_labels, G_read_labels, b_read_labels, k_read_labels⟩ := ok_read_labels (base := base) T
  refine ⟨fd, F.ok (k := 11) sc_law_told (fun _ _ _ _ h => sp2_len h) (fun cdv A outer s H vs Q E hr h => ?_), F.bindsN (fun _ _ _ _ _ _ us hl => match us, hl with | [_, _], _ => rfl), F.kp⟩
  obtain ⟨v0, v1, rfl, h⟩ := h
  refine ⟨_, PSs.nox (pss_cons (ps_set (i := 2) sc_law_told.nd rfl (Or.inl rfl) pe_non)
    (pss_cons (ps_try_keep (i := 3) (Wout := fun _ _ _ _ => False) rfl rfl sc_law_told.nd rfl rfl ⟨by rfl, by decide, .inl T.g_LabelError⟩ takesNo (fun W pn xe tk po => (pss_one (ps_expr (pe_callS G_read_labels (hr.mono (by decide)) (by rfl) T.g_read_labels k_read_labels b_read_labels (fun σ => passAt tk σ) (pa_cons (pv 0) (pa_cons (pv 1) pa_nil)))))) (fun a oe pn ho => (pss_one (ps_set (i := 2) sc_law_told.nd rfl (Or.inl rfl) (pv 3)))))
    (pss_cons (ps_if (pt_cmpR op_isN (pv 2) pe_non (nomark _)) (pss_one (ps_ret pe_str)) pss_nil)
    (pss_one (ps_ret (pe_ifExp (PW.pt (pw_and (pt_val (pe_callB (call_isKept (D := He.ga K "LabelError") (fI := fIn K)) (by rfl) T.b_isinstance (by decide +kernel) (pa_cons (pv 2) (pa_cons (pe_glob (v := .ref (He.ga K "BadLine")) (by rfl) T.g_BadLine rfl) pa_nil)))) (pw_and1 (pt_val (pe_callB (call_isKept (D := He.ga K "LabelError") (fI := fIn K)) (by rfl) T.b_isinstance (by decide +kernel) (pa_cons (pv 2) (pa_cons (pe_bltn (v := .ty "ValueError") (by rfl) T.b_ValueError (by decide +kernel) rfl) pa_nil))))))) (pe_callB SkE.call_repr_int (by rfl) T.b_repr (by decide +kernel) (pa_cons (pe_keptV (D := He.ga K "LabelError") (fI := fIn K) (pv 2)) pa_nil)) pe_str)))))), ?_⟩
  obtain ⟨x, st, S, kn, h0, hx⟩ := h
  have bad : ∀ (i : Int), i.natAbs.log2 < 1920 → (∀ H', Same H H' → Q (.str (numS i)) H') → ∀ d H3, Same H H3 → H d = none → H3 d = some (.xd [("value", .int i)]) → ∀ a, H3 a = none →
      KeptAt (upd H3 a (exk a (He.ga K "BadLine") d)) a (He.ga K "BadLine") (.int i) ∧ Q (.str (numS i)) (upd H3 a (exk a (He.ga K "BadLine") d)) := fun i _ hq d H3 s3 hd hxd a ha =>
    ⟨⟨d, upd_same, by rw [upd_ne (ne_of_none hxd ha)]; exact hxd⟩, hq _ (s3.trans (same_new ha))⟩
  refine ⟨_, rfl, _, rfl, _, _, rfl, x, st, S, kn, ?_, ?_⟩
  · intro hs d H3 s3 hd3 hxd
    refine ⟨true, caughtBy T.er_BadLine T.er_LabelError, fun _ => ⟨_, d, rfl, rfl, fun a ha => ⟨_, rfl, _, rfl, rfl, _, rfl, ?_⟩⟩, fun z => by cases z⟩
    rw [decide_eq_false (fun z => by cases z)]
    obtain ⟨kA, qA⟩ := bad 0 (by decide) (h0 hs) d H3 s3 hd3 hxd a ha
    refine ⟨_, rfl, a, _, _, _, _, true, rfl, T.er_BadLine, kA, .own _, isSelf, _, rfl, ?_⟩
    refine ⟨_, rfl, a, _, _, _, _, true, rfl, T.er_BadLine, kA, .ty _, isVal T.er_BadLine, _, rfl, ?_⟩
    exact ⟨_, rfl, a, _, _, rfl, T.er_BadLine, kA, _, rfl, by decide, qA⟩
  · intro z ez
    obtain ⟨hz, hln, h30, hq⟩ := hx z ez
    refine ⟨hz, hln, fun e => ?_, fun e => ⟨fun ls rd hl H' v' rs s' Sh pm io => ?_, fun ls ln rd hl hb => ?_⟩⟩
    · intro d H3 s3 hd3 hxd
      refine ⟨true, caughtBy T.er_BadLine T.er_LabelError, fun _ => ⟨_, d, rfl, rfl, fun a ha => ⟨_, rfl, _, rfl, rfl, _, rfl, ?_⟩⟩, fun z => by cases z⟩
      rw [decide_eq_false (fun z => by cases z)]
      obtain ⟨kA, qA⟩ := bad 0 (by decide) (h30 e) d H3 s3 hd3 hxd a ha
      refine ⟨_, rfl, a, _, _, _, _, true, rfl, T.er_BadLine, kA, .own _, isSelf, _, rfl, ?_⟩
      refine ⟨_, rfl, a, _, _, _, _, true, rfl, T.er_BadLine, kA, .ty _, isVal T.er_BadLine, _, rfl, ?_⟩
      exact ⟨_, rfl, a, _, _, rfl, T.er_BadLine, kA, _, rfl, by decide, qA⟩
    · have q2 := hq e H' s'
      rw [if_pos (fw11_ok rd hl)] at q2
      refine ⟨_, rfl, rfl, _, rfl, ?_⟩
      rw [decide_eq_true rfl]
      exact q2
    · intro d H3 s3 hd3 hxd
      have hlt := (List.getElem?_eq_some_iff.mp hl).1
      have ef := fw11_bad rd e hl hb
      have q2 : ∀ H', Same H H' → Q (.str (numS (ls.length + 1))) H' := fun H' s' => by
        have := hq e H' s'
        rw [if_neg (by omega), ef] at this
        exact this
      have hlog : ((ls.length : Int) + 1).natAbs.log2 < 1920 := Nat.lt_trans (log2_small (k := 40) (by decide) (by omega)) (by decide)
      refine ⟨true, caughtBy T.er_BadLine T.er_LabelError, fun _ => ⟨_, d, rfl, rfl, fun a ha => ⟨_, rfl, _, rfl, rfl, _, rfl, ?_⟩⟩, fun z => by cases z⟩
      rw [decide_eq_false (fun z => by cases z)]
      obtain ⟨kA, qA⟩ := bad _ hlog q2 d H3 s3 hd3 hxd a ha
      refine ⟨_, rfl, a, _, _, _, _, true, rfl, T.er_BadLine, kA, .own _, isSelf, _, rfl, ?_⟩
      refine ⟨_, rfl, a, _, _, _, _, true, rfl, T.er_BadLine, kA, .ty _, isVal T.er_BadLine, _, rfl, ?_⟩
      exact ⟨_, rfl, a, _, _, rfl, T.er_BadLine, kA, _, rfl, hlog, qA⟩
end
end SK
set_option pp.maxSteps 1500
set_option pp.deepTerms false
set_option maxHeartbeats 8000000
namespace SL
open PySem PySem.Spec PyProof.Rows L2 TL
theorem pe_joinK {X : Cx} {K : PySem.W.Frag} {o e : Expr} {to te : TE} {apos pos : Pos} (hK : X.K = K) (ho : PE X o to) (he : PE X e te) (hs : starEach [e] X.env = [(false, eval e X.env)] := by rfl) (hbase : attributeBase o "join" X.env (eval o X.env) = eval o X.env := by rfl) (hline : (apos.endLine == pos.line) = true := by rfl) : PE X (.Call (.Attribute o "join" apos) [e] [] pos) (tM1 (fun x xs H Q => ∃ a p, ∃ ys : List Str, x = .str a ∧ xs = [.ref p] ∧ (SqL K H p (ys.map V.str) ∨ SqT K H p (ys.map V.str)) ∧ (ys.map (·.length)).sum + ys.length * a.length ≤ 16777216 ∧ Q (.str (Txt.join a ys)) H) to te) := by
  subst hK
  exact pe_join ho he hs hbase hline
theorem name_cn {z : Str} (h : isName z = true) : cn11 z := fun c hc => by
  unfold isName at h
  rw [Bool.and_eq_true] at h
  have := let_ok (of_decide_eq_true (List.all_eq_true.mp h.2 c hc))
  omega
theorem num_cn (i : Int) : cn11 (numS i) := fun c hc => by
  have := num_dig c hc
  omega
theorem lw_cn {a : Lab} (h : LbG a) : ∀ w ∈ lwOf a, cn11 w := fun w hw => by
  simp only [lwOf, List.mem_cons, List.not_mem_nil, or_false] at hw
  rcases hw with rfl | rfl | rfl | rfl | rfl | rfl
  · exact name_cn h.nm
  · exact name_cn h.kd
  all_goals exact num_cn _
theorem lw_ln {a : Lab} (h : LbG a) : Ln 78 (lineOf (lwOf a)) := ⟨lw_len h, (join_ln (C := wt (lwOf a)) (Nat.le_refl _) (lw_cn h)).2⟩
def lns (ls : List Lab) : List Str := ls.map fun a => lineOf (lwOf a)
theorem lns_rd {st : RSt} {ls : List Lab} (gd : Gd st ls) (h : ∀ a ∈ ls, LbG a) (r : List Str) : rdTo st (lns ls ++ r) ls := fun i a hi => by
  obtain ⟨hlt, e⟩ := List.getElem?_eq_some_iff.mp hi
  have ga := h a (List.mem_of_getElem? hi)
  refine ⟨⟨lineOf (lwOf a), ?_, by rw [lw_split ga, tell_lw ga]⟩, gd.good i a hlt hi⟩
  unfold lns
  rw [List.getElem?_append_left (by rw [List.length_map]; exact hlt), List.getElem?_map, hi]
  rfl
theorem fw_good {st : RSt} {ls : List Lab} (gd : Gd st ls) (h : ∀ a ∈ ls, LbG a) (r : List Str) : fw11 st (lns ls ++ r) [] = fw11 st r ls := by
  rw [fw11_rd (lns_rd gd h r) ls.length (Nat.le_refl _), List.take_length, List.drop_append_of_le_length (by unfold lns; rw [List.length_map]; exact Nat.le_refl _), show (lns ls).drop ls.length = [] from List.drop_eq_nil_of_le (by unfold lns; rw [List.length_map]; exact Nat.le_refl _), List.nil_append]
theorem fw_empty {st : RSt} {r : List Str} {ls : List Lab} : fw11 st ("" :: r) ls = ls.length + 1 := by
  rw [fw11]
  have : labL11 st "" = none := by
    unfold labL11
    rw [split_empty.2]
    rfl
  rw [this]
theorem lines_join {fs : List Str} (hn : fs ≠ []) (h : ∀ z ∈ fs, cn11 z) : linesIn (Txt.join "\n" fs) = if fs = [("" : Str)] then [] else fs := by
  have hs : Txt.split (Txt.join "\n" fs) "\n" = fs := split_join (s := 10) (S := []) tl_nl (by decide +kernel) hn fun p hp hc => (h p hp 10 hc).1 rfl
  unfold linesIn
  by_cases e : Txt.join "\n" fs = ""
  · rw [if_pos e]
    rw [e, split_empty.1] at hs
    rw [if_pos hs.symm]
  · rw [if_neg e, hs, if_neg]
    intro e2
    rw [e2] at e
    exact e (by decide +kernel)
theorem join_sum {fs : List Str} {B : Nat} (hl : fs.length ≤ 100) (h : ∀ z ∈ fs, Ln B z) (hB : B ≤ 640) : (fs.map (·.length)).sum + fs.length * ("\n" : Str).length ≤ 16777216 ∧ (Txt.join "\n" fs).length ≤ 100000 := by
  have e : ("\n" : Str).length = 1 := by decide +kernel
  have h1 := sum_le (B := B) (ws := fs) fun z hz => (h z hz).1
  have h2 := join_len (y := "\n") (B := B) (ws := fs) fun w hw => (h w hw).1
  rw [e] at h2 ⊢
  have h3 : fs.length * B ≤ 100 * 640 := Nat.mul_le_mul hl hB
  have h4 : fs.length * (B + 1) ≤ 100 * 641 := Nat.mul_le_mul hl (by omega)
  omega
theorem cn_ok {z : Str} (h : cn11 z) : PyData.strOk z = true := by
  unfold PyData.strOk
  rw [← Array.all_toList, List.all_eq_true]
  intro c hc
  have := (h c hc).2
  exact decide_eq_true (by omega)
theorem strs_dp {K : PySem.W.Frag} {H : Hp} : ∀ l : List Str, DpAll K H (l.map V.str) (l.map PyData.str)
  | [] => .nil
  | c :: l => .cons (.str _) (strs_dp l)
theorem strs_shp {l : List Str} (h : ∀ z ∈ l, cn11 z) : SeqAt.shaped (.list (l.map PyData.str)) = true := (Shp.lst (m := 0) fun d hd => by
  obtain ⟨c, hc, rfl⟩ := List.mem_map.mp hd
  exact Shp.str (cn_ok (h c hc))).shaped (by decide)
theorem eqv_strs : ∀ (a b : List Str), PyData.eqvAll (a.map PyData.str) (b.map PyData.str) = true ↔ a = b
  | [], [] => by simp [PyData.eqvAll]
  | [], _ :: _ => by simp [PyData.eqvAll]
  | _ :: _, [] => by simp [PyData.eqvAll]
  | x :: a, y :: b => by
    rw [List.map_cons, List.map_cons, PyData.eqvAll, Bool.and_eq_true, eqv_strs a b, PyData.eqv]
    simp
theorem ne_one (l : List Str) : (!PyData.eqv (.list (l.map PyData.str)) (.list [PyData.str ""])) = !decide (l = [("" : Str)]) := by
  congr 1
  rw [PyData.eqv, Bool.eq_iff_iff, decide_eq_true_eq]
  exact eqv_strs l [("" : Str)]
def spRight11 : Sp := sp1 fun a H Q _ => ∃ (p : Addr), a = .ref p ∧ Pt p 1000 H ∧ ∀ H', Kp p H H' → Q (.bl true) H'
def Bs11 : Nat → Nat
  | 0 => 78
  | i + 1 => 2 * Bs11 i + 14
theorem Bs11_ok {i : Nat} (h : i ≤ 2) : 20 ≤ Bs11 i ∧ Bs11 i ≤ 570 := by
  match i, h with
  | 0, _ => decide
  | 1, _ => decide
  | 2, _ => decide
end SL
namespace SK
open PySem PySem.Spec PyProof.Rows L2 SL
section
variable {w : World} {K : PySem.W.Frag} {mg : Str → Option Value} {base : Heap}
def ans11 (st : RSt) (fs : List Str) : Str := if 30 < fs.length then "0" else if fw11 st (if fs = [("" : Str)] then [] else fs) [] = 0 then "" else numS ((fw11 st (if fs = [("" : Str)] then [] else fs) [] : Nat) : Int)
theorem labL_so (so : Str) (lo : Lore) (ln : Str) : labL11 (stL lo) ln = labL11 (stOf so lo) ln := rfl
theorem fw11_so (so : Str) (lo : Lore) : ∀ (r : List Str) (ls : List Lab), fw11 (stL lo) r ls = fw11 (stOf so lo) r ls
  | [], ls => rfl
  | ln :: r, ls => by
    unfold fw11
    rw [labL_so so lo ln]
    cases e : labL11 (stOf so lo) ln with
    | none => rfl
    | some a =>
      dsimp only
      rw [fw11_so so lo r]
      rfl
theorem fw11_le {st : RSt} : ∀ (r : List Str) (ls : List Lab), fw11 st r ls ≤ ls.length + r.length
  | [], ls => Nat.zero_le _
  | ln :: r, ls => by
    unfold fw11
    cases e : labL11 st ln with
    | none =>
      show ls.length + 1 ≤ ls.length + (r.length + 1)
      omega
    | some a =>
      dsimp only
      split
      · have := fw11_le (st := st) r (ls ++ [a])
        rw [List.length_append] at this
        show _ ≤ ls.length + (r.length + 1)
        simp only [List.length_singleton] at this
        omega
      · show ls.length + 1 ≤ ls.length + (r.length + 1)
        omega
def num11 (st : RSt) (gs : List Str) : Nat := fw11 st (if gs = [("" : Str)] then [] else gs) []
theorem num11_le (st : RSt) (gs : List Str) : num11 st gs ≤ gs.length := by
  unfold num11
  have := fw11_le (st := st) (if gs = [("" : Str)] then [] else gs) []
  split at this
  · rw [if_pos ‹_›] at *
    exact Nat.le_trans this (Nat.zero_le _)
  · rw [if_neg ‹_›]
    rw [List.length_nil, Nat.zero_add] at this
    exact this
theorem ans_num {st : RSt} {gs : List Str} (h : gs.length ≤ 30) : ans11 st gs = if num11 st gs = 0 then ("" : Str) else numS ((num11 st gs : Nat) : Int) := by
  unfold ans11 num11
  rw [if_neg (by omega)]
theorem joinL_snoc {S : List Nat} : ∀ {ps : List (List Nat)}, ps ≠ [] → TL.joinL S (ps ++ [[]]) = TL.joinL S ps ++ S
  | [p], _ => by
    show p ++ (S ++ []) = p ++ S
    rw [List.append_nil]
  | p :: q :: r, _ => by
    show p ++ (S ++ TL.joinL S ((q :: r) ++ [[]])) = p ++ (S ++ TL.joinL S (q :: r)) ++ S
    rw [joinL_snoc (List.cons_ne_nil q r)]
    simp
theorem join_snoc {l : List Str} (h : l ≠ []) : Txt.join "\n" (l ++ [("" : Str)]) = Txt.join "\n" l ++ "\n" := by
  refine TL.ext_tl ?_
  rw [TL.join_eq, TL.join_eq, tl_app, TL.tl_join, TL.tl_join, List.map_append]
  exact joinL_snoc (by simpa using h)
theorem told_q {sv : V} {x : Str} {st : RSt} {H : Hp} {Q : VK} {E : XK} {fs : List Str} (S : StAt K H sv x st) (hn : fs ≠ []) (hl : fs.length ≤ 100) (hf : ∀ z ∈ fs, Ln 570 z) (k : ∀ H', Same H H' → Q (.str (ans11 st fs)) H') : spTold11 K [sv, .str (Txt.join "\n" fs)] H Q E := by
  have hj := lines_join hn fun z hz => (hf z hz).2
  have hL : (linesIn (Txt.join "\n" fs)).length ≤ fs.length ∧ (30 < fs.length → linesIn (Txt.join "\n" fs) = fs) ∧ ∀ z ∈ linesIn (Txt.join "\n" fs), z ∈ fs := by
    rw [hj]
    by_cases e : fs = [("" : Str)]
    · rw [if_pos e]
      refine ⟨Nat.zero_le _, fun h => ?_, fun z hz => absurd hz (by simp)⟩
      rw [e] at h
      exact absurd h (by decide)
    · rw [if_neg e]
      exact ⟨Nat.le_refl _, fun _ => rfl, fun z hz => hz⟩
  refine ⟨_, _, rfl, x, st, S, ⟨_, .str _⟩, fun e => (by cases e), fun z e => ?_⟩
  cases e
  refine ⟨(join_sum hl hf (by decide)).2, fun ln hln => Nat.le_trans (hf ln (hL.2.2 ln hln)).1 (by decide), fun h H' s' => ?_, fun h H' s' => ?_⟩
  · have q := k H' s'
    unfold ans11 at q
    rw [if_pos (by omega)] at q
    exact q
  · have q := k H' s'
    unfold ans11 at q
    rw [if_neg (fun h2 => by rw [hL.2.1 h2] at h; omega), ← hj] at q
    exact q
theorem told_o {sv v : V} {x : Str} {st : RSt} {H : Hp} {Q : VK} {E : XK} (S : StAt K H sv x st) (kn : ∃ n, Kn H v n) (hv : isStrV v = false) (k : ∀ H', Same H H' → Q (.str "0") H') : spTold11 K [sv, v] H Q E :=
  ⟨_, _, rfl, x, st, S, kn, fun _ => k, fun z e => by rw [e] at hv; cases hv⟩
abbrev n_law_right : List Str := ["_law_pot_here", "_law_lore_here", "_law_lines", "_law_turn", "_law_odd", "_law_many", "_law_style", "_law_labels_here", "_law_some", "_law_lap", "_law_number_here", "_law_label", "_law_part"]
theorem sc_law_right : FnScope n_law_right ["_law_pot_here"] (defScope d_law_right) := ⟨rfl, rfl, rfl, by decide +kernel, rfl, by decide +kernel, by decide +kernel⟩
theorem ok_law_right (T : Top w K mg) : HasG prg w K mg base CX0 14 (He.ga K "_law_right") ["_law_pot_here"] spRight11 := by
  obtain ⟨fd, F⟩ := T.F_law_right
  obtain ⟨fd_law_lore, G_law_lore, b_law_lore, k_law_lore⟩ := ok_law_lore (base := base) T
  obtain ⟨fd_law_labels, G_law_labels, b_law_labels, k_law_labels⟩ := ok_law_labels (base := base) T
  obtain ⟨fd_law_take, G_law_take, b_law_take, k_law_take⟩ := ok_law_take (base := base) T
  obtain ⟨fd_Style_init, G_Style_init, b_Style_init, k_Style_init⟩ := ok_Style_init (base := base) T
  obtain ⟨fd_law_text, G_law_text, b_law_text, k_law_text⟩ := ok_law_text (base := base) T
  obtain ⟨fd_law_of, G_law_of, b_law_of, k_law_of⟩ := ok_law_of (base := base) T
  obtain ⟨fd_law_spoilt, G_law_spoilt, b_law_spoilt, k_law_spoilt⟩ := ok_law_spoilt (base := base) T
  obtain ⟨fd_law_first_wrong, G_law_first_wrong, b_law_first_wrong, k_law_first_wrong⟩ := ok_law_first_wrong (base := base) T
  obtain ⟨fd_law_told, G_law_told, b_law_told, k_law_told⟩ := ok_law_told (base := base) T
  refine ⟨fd, funD_okG (k := 13) F sc_law_right (fun _ _ _ _ h => sp1_len h) (fun cdv A outer s H vs Q E hg hr h => ?_), F.bindsN (fun _ _ _ _ _ _ us hl => match us, hl with | [_], _ => rfl), F.kp⟩
  obtain ⟨v0, rfl, h⟩ := h
  refine ⟨_, PSs.nox (pss_cons (ps_set (i := 1) sc_law_right.nd rfl (Or.inl rfl) (pe_call G_law_lore (hr.mono (by decide)) (by rfl) T.g_law_lore k_law_lore b_law_lore .nil pass0 (pa_cons (pv 0) (pa_cons pe_int (pa_cons pe_int (pa_cons pe_int pa_nil))))))
    (pss_cons (ps_par (i := 6) (j := 7) (by rfl) sc_law_right.nd rfl rfl (by decide) rfl rfl (pa_cons (pe_make T.mk_Style G_Style_init (hr.mono (by decide)) (by rfl) T.g_Style b_Style_init .nil passNo (pa_cons (pe_call G_law_text (hr.mono (by decide)) (by rfl) T.g_law_text k_law_text b_law_text .nil pass0 (pa_cons (pv 1) pa_nil)) pa_nil)) (pa_cons (pe_call G_law_labels (hr.mono (by decide)) (by rfl) T.g_law_labels k_law_labels b_law_labels .nil pass0 (pa_cons (pv 0) (pa_cons (pv 1) (pa_cons (pe_op op_add pe_int (pe_call G_law_take (hr.mono (by decide)) (by rfl) T.g_law_take k_law_take b_law_take .nil pass0 (pa_cons (pv 0) (pa_cons pe_int pa_nil)))) pa_nil)))) pa_nil)) (by rfl))
    (pss_cons (ps_setLc (i := 2) (own := [("_law_label", 11)]) (g := gName 11) (by rfl) sc_law_right.nd rfl rfl (sw_true rfl rfl rfl (by decide +kernel)) (pi_list (pv 7)) (blkOk_by (N := n_law_right) (sc := defScope d_law_right) (own := [("_law_label", 11)]) (by decide +kernel)) (fun _ _ _ _ _ => (pg_name (i := 11) sc_law_right.nd rfl (Or.inl rfl) (.inr rfl))) (fun _ _ _ _ _ => pts_nil) (fun _ _ _ _ _ => (pe_joinK (K := K) rfl pe_str (pe_lc (own := [("_law_part", 12)]) (g := gName 12) (by rfl) sc_law_right.nd (pi_tupK (K := K) rfl (pv 11)) (blkOk_in (N := n_law_right) (sc := ⟨.function, [(".0", .local), ("_law_label", .local)], false, false, []⟩) (own := [("_law_part", 12)]) (by rfl) (by decide +kernel)) (fun _ _ _ _ _ => (pg_name (i := 12) sc_law_right.nd rfl (Or.inl rfl) (.inr rfl))) (fun _ _ _ _ _ => pts_nil) (fun _ _ _ _ _ => (pe_callTy (CallR.or call_str_int SkE.call_str_str) (by rfl) T.b_str boot_str (pa_cons (pv 12) pa_nil)))))))
    (pss_cons (ps_for PassesOwn.never rfl (pi_range1 (by rfl) T.b_range (pa_cons pe_int pa_nil)) (pg_name (i := 3) sc_law_right.nd rfl (Or.inl rfl)) (pss_cons (ps_set (i := 8) sc_law_right.nd rfl (Or.inl rfl) (pe_callTy call_list_of (by rfl) T.b_list boot_list (pa_cons (pv 2) pa_nil)))
    (pss_cons (ps_for PassesOwn.never rfl (pi_range1 (by rfl) T.b_range (pa_cons (pe_call G_law_of (hr.mono (by decide)) (by rfl) T.g_law_of k_law_of b_law_of .nil pass0 (pa_cons (pv 0) (pa_cons (pe_lst (pa_cons pe_int (pa_cons pe_int (pa_cons pe_int pa_nil)))) pa_nil))) pa_nil)) (pg_name (i := 9) sc_law_right.nd rfl (Or.inl rfl)) (pss_one (ps_set (i := 8) sc_law_right.nd rfl (Or.inl rfl) (pe_call G_law_spoilt (hr.mono (by decide)) (by rfl) T.g_law_spoilt k_law_spoilt b_law_spoilt .nil pass0 (pa_cons (pv 0) (pa_cons (pv 8) pa_nil))))))
    (pss_cons (ps_set (i := 10) sc_law_right.nd rfl (Or.inl rfl) (pe_ifExp (pt_cmpR (op_neD hr.units) (pv 8) (pe_lst (pa_cons pe_str pa_nil)) (nomark _)) (pe_call G_law_first_wrong (hr.mono (by decide)) (by rfl) T.g_law_first_wrong k_law_first_wrong b_law_first_wrong .nil pass0 (pa_cons (pv 1) (pa_cons (pv 8) pa_nil))) pe_int))
    (pss_one (ps_if (pt_cmpR op_ne (pe_call G_law_told (hr.mono (by decide)) (by rfl) T.g_law_told k_law_told b_law_told .nil pass0 (pa_cons (pv 6) (pa_cons (pe_join pe_str (pv 8)) pa_nil))) (pe_ifExp (pt_cmpR op_gt (pv 10) pe_int (nomark _)) (pe_callB SkE.call_repr_int (by rfl) T.b_repr (by decide +kernel) (pa_cons (pv 10) pa_nil)) pe_str) (nomark _)) (pss_one (ps_ret pe_bl)) pss_nil))))))
    (pss_cons (ps_set (i := 4) sc_law_right.nd rfl (Or.inl rfl) (pe_call G_law_of (hr.mono (by decide)) (by rfl) T.g_law_of k_law_of b_law_of .nil pass0 (pa_cons (pv 0) (pa_cons (pe_lst (pa_cons pe_non (pa_cons pe_int (pa_cons (pv 2) (pa_cons (pe_callTy call_tuple_of (by rfl) T.b_tuple boot_tuple (pa_cons (pv 2) pa_nil)) (pa_cons pe_bl (pa_cons pe_dnewK pa_nil))))))) pa_nil))))
    (pss_cons (ps_if (PW.pt (pw_or (pt_cmpR op_ne (pe_call G_law_told (hr.mono (by decide)) (by rfl) T.g_law_told k_law_told b_law_told .nil pass0 (pa_cons (pv 6) (pa_cons (pv 4) pa_nil))) pe_str (nomark _)) (pw_or1 (pt_cmpR op_ne (pe_call G_law_told (hr.mono (by decide)) (by rfl) T.g_law_told k_law_told b_law_told .nil pass0 (pa_cons (pv 6) (pa_cons (pe_op op_add_str (pe_join pe_str (pv 2)) pe_str) pa_nil))) (pe_callB SkE.call_repr_int (by rfl) T.b_repr (by decide +kernel) (pa_cons (pe_op op_add (pe_callB call_len (by rfl) T.b_len (by decide +kernel) (pa_cons (pv 2) pa_nil)) pe_int) pa_nil)) (nomark _))))) (pss_one (ps_ret pe_bl)) pss_nil)
    (pss_cons (ps_set (i := 5) sc_law_right.nd rfl (Or.inl rfl) (pe_call G_law_of (hr.mono (by decide)) (by rfl) T.g_law_of k_law_of b_law_of .nil pass0 (pa_cons (pv 0) (pa_cons (pe_lst (pa_cons pe_int (pa_cons pe_int (pa_cons pe_int (pa_cons pe_int pa_nil))))) pa_nil))))
    (pss_one (ps_ret (pe_cmpR op_eq (pe_call G_law_told (hr.mono (by decide)) (by rfl) T.g_law_told k_law_told b_law_told .nil pass0 (pa_cons (pv 6) (pa_cons (pe_join pe_str (pe_op op_cat (pe_op op_rep (pe_lst (pa_cons pe_str pa_nil)) (pv 5)) (pe_slice sl_list (pv 2) po_none (po_some pe_int)))) pa_nil))) (pe_ifExp (pt_cmpR op_lt (pe_op op_add (pv 5) pe_int) pe_int (nomark _)) pe_str pe_str) (nomark _))))))))))), ?_⟩
  obtain ⟨p, rfl, hp, k⟩ := h
  refine ⟨_, rfl, _, _, _, _, rfl, p, 3, 3, 2, 700, rfl, rfl, rfl, rfl, by decide, by decide, by decide, by decide, by decide, by decide, hp.mono (by decide), fun v lo H1 ok _ _ LA1 hp1 k1 => ?_⟩
  refine ⟨_, rfl, _, rfl, lo, LA1, ok, fun H2 s2 => ?_⟩
  intro x1 x2 x3 x4 x5
  refine style_q (K := K) ok x3 x4 x5 fun H3 so s3 S3 => ⟨rfl, ?_⟩
  have s13 := s2.trans s3
  have hp3 := hp1.same s13
  have LA3 := LA1.same s13
  refine ⟨_, rfl, _, rfl, _, rfl, take_q (f := 699) hp3 (by decide) (by decide) fun r H4 r0 r1 hp4 k4 => ?_⟩
  have LA4 := LA3.kp hp3 k4
  refine ⟨_, _, rfl, rfl, _, _, _, rfl, p, 400, (1 + r).toNat, lo, rfl, hp4.mono (by omega), LA4, ok, congrArg V.int (Int.toNat_of_nonneg (by omega)).symm, by omega, fun L us fs H5 nLH nL k5 hp5 hL hA gd hfl hpos hbd => ⟨_, _, rfl, ?_⟩⟩
  have LA5 := LA4.kp hp4 k5
  have Gf : Gd (stL lo) fs := Gd.of gd (by omega)
  have S5 : StAt K H5 (.ref x1) (textOf lo) (stOf so lo) := SAt.nl ((hp3.nl k4).trans (hp4.nl k5)) S3
  have kp5 : Kp p H H5 := (k1.trans (Kp.of s13)).trans (k4.trans k5)
  have Gs : Gd (stOf so lo) fs := ⟨Gf.len, Gf.ok, Gf.far⟩
  have hgf : ∀ a ∈ fs, LbG a := fun a ha => lb_good ok (Gf.ok a ha)
  have hf0 : 0 < fs.length := hpos (by omega)
  have hf6 : fs.length ≤ 6 := by omega
  have hul := labs_len hA
  have lg : ∀ {i : Int}, (if i < 0 then -i else i) < 10 ^ 8 → i.natAbs.log2 < 1920 := fun {i} h => Nat.lt_trans (log2_small (k := 40) (by decide) (by split at h <;> omega)) (by decide)
  -- the lines
  refine ⟨_, rfl, L, rfl, ⟨_, SqL.of hL⟩, fun D hD => ?_⟩
  refine lc_fm (walk_list (xs := us)) (fun i => (fs[i]?).bind fun a => some (V.str (lineOf (lwOf a)))) hD (by rw [hul, sizeLine_eq]; omega) (fun H2 s2 => SqL.of (s2 _ _ hL)) ?_ ?_
  · rintro i v H2x H2 Ky Kn hi s2 ⟨rfl, hv⟩ ky kn
    obtain ⟨a, ha, La⟩ := labs_get hA hv
    obtain ⟨ta, rfl, hta⟩ := La.same s2
    have g := hgf a (List.mem_of_getElem? ha)
    have g1 := g.le
    have g2 := g.we
    have g3 := g.x
    have g4 := g.y
    unfold absI at g1 g2 g3 g4
    refine ⟨rfl, ⟨_, rfl⟩, _, rfl, ta, rfl, ⟨_, SqT.of hta⟩, fun D2 hD2 => ?_⟩
    refine lc_fm (walk_tup (xs := a.vs)) (fun i => ((lwOf a)[i]?).map V.str) hD2 (by show 6 ≤ sizeLine; decide) (fun H3 s3 => SqT.of (s3 _ _ hta)) ?_ ?_
    · rintro j v H3x H3 Ky2 Kn2 hj s3 ⟨rfl, hv2⟩ ky2 kn2
      match j, hj, hv2, ky2 with
      | 0, _, hv2, ky2 => cases hv2; exact ⟨rfl, _, rfl, .inr ⟨_, rfl, ky2 _ _ rfl (Same.refl _)⟩⟩
      | 1, _, hv2, ky2 => cases hv2; exact ⟨rfl, _, rfl, .inr ⟨_, rfl, ky2 _ _ rfl (Same.refl _)⟩⟩
      | 2, _, hv2, ky2 => cases hv2; exact ⟨rfl, _, rfl, .inl ⟨_, rfl, lg g1, ky2 _ _ rfl (Same.refl _)⟩⟩
      | 3, _, hv2, ky2 => cases hv2; exact ⟨rfl, _, rfl, .inl ⟨_, rfl, lg g2, ky2 _ _ rfl (Same.refl _)⟩⟩
      | 4, _, hv2, ky2 => cases hv2; exact ⟨rfl, _, rfl, .inl ⟨_, rfl, lg g3, ky2 _ _ rfl (Same.refl _)⟩⟩
      | 5, _, hv2, ky2 => cases hv2; exact ⟨rfl, _, rfl, .inl ⟨_, rfl, lg g4, ky2 _ _ rfl (Same.refl _)⟩⟩
      | j + 6, hj, _, _ => exact absurd hj (by show ¬ j + 6 < 6; omega)
    intro H3 s3 hD3
    have hD3 : H3 D2 = some (.lst ((lwOf a).map V.str)) := hD3
    have hsm := sum_le (lw_short g)
    have c3 : (" " : Str).length = 1 := by decide +kernel
    have hl6 : (lwOf a).length = 6 := rfl
    refine ⟨_, D2, lwOf a, rfl, rfl, .inl (SqL.of hD3), ?_, ky _ _ (by rw [ha]; rfl) s3⟩
    rw [c3]
    omega
  intro H6 s6 hD6
  have eF : (List.range us.length).filterMap (fun i => (fs[i]?).bind fun a => some (V.str (lineOf (lwOf a)))) = (lns fs).map V.str := by
    rw [hul, fm_get]
    unfold lns
    rw [List.map_map]
    exact congrFun (List.filterMap_eq_map (f := fun a => V.str (lineOf (lwOf a)))) _
  rw [eF] at hD6
  have hlz : ∀ z ∈ lns fs, Ln 78 z := fun z hz => by
    obtain ⟨a, ha, rfl⟩ := List.mem_map.mp hz
    exact lw_ln (hgf a ha)
  have hll : (lns fs).length = fs.length := List.length_map ..
  have kp6 : Kp p H H6 := kp5.trans (Kp.of s6)
  have hp6 := hp5.same s6
  have nD : D ≠ p := hp5.ne hD
  have S6 := SAt.same s6 S5
  have LA6 := LA5.same s6
  have fwg := fun r => fw_good Gs hgf r
  -- the turns
  refine ⟨_, rfl, by omega, by omega, ?_⟩
  refine for_it (walk_range (lo := 0) (n := (10 : Int).toNat)) (fun i σ H7 => ∃ (o3 o8 o9 o10 : Option V), σ = [some (.ref p), some v, some (.ref D), o3, none, none, some (.ref x1), some (.ref L), o8, o9, o10, none, none] ∧ Kp p H6 H7 ∧ Pt p (20 * (15 - i)) H7)
    ⟨_, _, _, _, rfl, Kp.refl _ _, hp6.mono (by decide)⟩ (fun _ _ _ _ _ => trivial) ?_ ?_
  · rintro i x σ Hz H7 hi ⟨o3, o8, o9, o10, rfl, kp7, hp7⟩ ⟨rfl, rfl⟩
    have hi : i < 10 := hi
    have hD7 := kp7 _ _ nD hD6
    refine ⟨_, rfl, D, _, rfl, .inl (SqL.of hD7), fun S hS => ?_⟩
    have s8 := same_new (o := .lst ((lns fs).map V.str)) hS
    have nS := hp7.ne hS
    have hS8 : upd H7 S (.lst ((lns fs).map V.str)) S = some (.lst ((lns fs).map V.str)) := upd_same
    generalize upd H7 S (.lst ((lns fs).map V.str)) = H8 at s8 hS8 ⊢
    refine ⟨_, rfl, (by show 3 ≤ sizeLine; decide), fun q hq => ?_⟩
    have s9 := same_new (o := .lst [V.int 1, V.int 1, V.int 2]) hq
    have hp8 := hp7.same s8
    refine of_q (f := 20 * (15 - (i + 1)) + 19) ((hp8.same s9).mono (by omega)) upd_same (hp8.ne hq) (by show 0 < 3; decide) (by show 3 ≤ 1000000; decide) fun y H10 hy hp10 k10 => ?_
    obtain ⟨n, rfl, hn1, hn3⟩ : ∃ n : Nat, y = .int n ∧ 1 ≤ n ∧ n ≤ 2 := by
      simp only [List.mem_cons, List.not_mem_nil, or_false] at hy
      rcases hy with rfl | rfl | rfl
      · exact ⟨1, rfl, by decide, by decide⟩
      · exact ⟨1, rfl, by decide, by decide⟩
      · exact ⟨2, rfl, by decide, by decide⟩
    have k710 : Kp p H7 H10 := (Kp.of (s8.trans s9)).trans k10
    refine ⟨_, rfl, by omega, by omega, ?_⟩
    refine for_it (walk_range (lo := 0) (n := (n : Int).toNat)) (fun j σ H' => ∃ (S' : Addr) (gs : List Str) (o9 o10 : Option V), σ = [some (.ref p), some v, some (.ref D), some (.int (0 + (i : Nat))), none, none, some (.ref x1), some (.ref L), some (.ref S'), o9, o10, none, none] ∧ Kp p H6 H' ∧ Pt p (20 * (15 - (i + 1)) + 8 * (2 - j)) H' ∧ H' S' = some (.lst (gs.map V.str)) ∧ S' ≠ p ∧ 0 < gs.length ∧ gs.length ≤ 6 + j ∧ ∀ z ∈ gs, Ln (Bs11 j) z)
      ⟨S, lns fs, _, _, rfl, kp7.trans k710, hp10.mono (by omega), k10 _ _ nS (s9 _ _ hS8), nS, by omega, by omega, hlz⟩ (fun _ _ _ _ _ => trivial) ?_ ?_
    · rintro j x σ H11 H12 hj ⟨S', gs, o9, o10, rfl, kp11, hp11, hS11, nS', hg0, hgl, hgz⟩ ⟨rfl, rfl⟩
      have hj : j < n := hj
      have hB := Bs11_ok (i := j) (by omega)
      refine ⟨_, rfl, _, rfl, _, _, rfl, p, S', 20 * (15 - (i + 1)) + 8 * (2 - (j + 1)), Bs11 j, gs, rfl, rfl, hp11.mono (by omega), hS11, nS', hg0, by omega, hgz, hB.1, hB.2, fun L' ls' H' hp' k' hL' nL' hl0 hl' hz' => ?_⟩
      exact ⟨L', ls', _, _, rfl, kp11.trans k', hp', hL', nL', hl0, by omega, hz'⟩
    · rintro σ H11 ⟨S', gs, o9, o10, rfl, kp11, hp11, hS11, nS', hg0, hgl, hgz⟩
      have hB := Bs11_ok (i := n) hn3
      have hgz : ∀ z ∈ gs, Ln 570 z := fun z hz => (hgz z hz).mono hB.2
      have hgl : gs.length ≤ 8 := by
        have : (n : Int).toNat = n := rfl
        omega
      have hgn : gs ≠ [] := List.length_pos_iff.mp hg0
      have S11 := SAt.nl (hp6.nl kp11) S6
      have LA11 := LA6.kp hp6 kp11
      refine ⟨_, rfl, (by show 1 ≤ sizeLine; decide), fun e he => ?_⟩
      have s12 := same_new (o := .lst [V.str ""]) he
      have he12 : upd H11 e (.lst [V.str ""]) e = some (.lst [V.str ""]) := upd_same
      generalize upd H11 e (.lst [V.str ""]) = H12 at s12 he12 ⊢
      refine ⟨.list (gs.map PyData.str), .list [PyData.str ""], .lst (SqL.of (s12 _ _ hS11)) (strs_dp gs), .lst (SqL.of he12) (.cons (.str _) .nil), strs_shp (fun z hz => (hgz z hz).2), (by decide +kernel), _, rfl, ?_⟩
      rw [ne_one]
      have hnl := num11_le (stOf so lo) gs
      refine (show ∀ {Kn : V → Hp → Prop}, (∀ H', Same H12 H' → Kn (.int ((num11 (stOf so lo) gs : Nat) : Int)) H') → (fun (c : Bool) H1 => if c = true then tCall (spFw11 K) [] E0 (tCons (tVar 1) (tCons (tVar 8) tNil)) _ H1 Kn else tC (.int 0) _ H1 Kn) (!decide (gs = [("" : Str)])) H12 from fun {Kn} kk => ?_) fun H13 s13 => ?_
      · unfold num11 at kk
        by_cases e1 : gs = [("" : Str)]
        · rw [if_pos e1] at kk
          rw [decide_eq_true e1]
          exact kk _ (Same.refl _)
        · rw [if_neg e1] at kk
          rw [decide_eq_false e1]
          refine ⟨_, rfl, _, rfl, _, _, rfl, lo, S', gs, LA11.same s12, ok, rfl, s12 _ _ hS11, by omega, fun z hz => Nat.le_trans (hgz z hz).1 (by decide), fun H' s' => ?_⟩
          rw [fw11_so so lo]
          exact kk _ s'
      have s1113 := s12.trans s13
      refine ⟨_, rfl, ⟨_, rfl⟩, _, rfl, _, S', gs, rfl, rfl, .inl (SqL.of (s1113 _ _ hS11)), (join_sum (by omega) hgz (by decide)).1, ?_⟩
      refine told_q (SAt.same s1113 S11) hgn (by omega) hgz fun H14 s14 => ?_
      rw [ans_num (by omega)]
      have nx : Kp p H6 H14 ∧ Pt p (20 * (15 - (i + 1))) H14 := ⟨kp11.trans (Kp.of (s1113.trans s14)), ((hp11.same s1113).same s14).mono (by omega)⟩
      refine ⟨_, rfl, _, _, rfl, rfl, _, rfl, ?_⟩
      by_cases h0 : num11 (stOf so lo) gs = 0
      · rw [h0, if_pos rfl]
        refine ⟨rfl, _, rfl, ?_⟩
        rw [decide_eq_true rfl]
        exact ⟨_, _, _, _, rfl, nx⟩
      · rw [decide_eq_true (show (0 : Int) < (num11 (stOf so lo) gs : Nat) by omega), if_neg h0]
        refine ⟨_, rfl, _, rfl, Nat.lt_trans (log2_small (k := 40) (by decide) (by omega)) (by decide), rfl, _, rfl, ?_⟩
        rw [show decide (V.str (numS ((num11 (stOf so lo) gs : Nat) : Int)) = V.str (Str.ofString (toString ((num11 (stOf so lo) gs : Nat) : Int)))) = true from decide_eq_true rfl]
        exact ⟨_, _, _, _, rfl, nx⟩
  · rintro σ G ⟨o3, o8, o9, o10, rfl, kpG, hpG⟩
    have hpG : Pt p (1 + 2) G := hpG.mono (by omega)
    have hDG := kpG _ _ nD hD6
    have SG := SAt.nl (hp6.nl kpG) S6
    refine ⟨_, rfl, _, rfl, _, rfl, D, _, rfl, .inl ⟨SqL.of hDG, fun t ht => ?_⟩⟩
    have t1 := same_new (o := .tup ((lns fs).map V.str)) ht
    have ht1 : upd G t (.tup ((lns fs).map V.str)) t = some (.tup ((lns fs).map V.str)) := upd_same
    have nt : t ≠ p := hpG.ne ht
    generalize upd G t (.tup ((lns fs).map V.str)) = G1 at t1 ht1 ⊢
    have hp1' := hpG.same t1
    intro d hd
    have nd : d ≠ p := hp1'.ne hd
    have t2 := same_new (o := .dK []) hd
    have hd2 : upd G1 d (.dK []) d = some (.dK []) := upd_same
    generalize upd G1 d (.dK []) = G2 at t2 hd2 ⊢
    have hp2' := hp1'.same t2
    refine ⟨(by show 6 ≤ sizeLine; decide), fun S hS => ?_⟩
    have t3 := same_new (o := .lst [V.non, V.int 0, V.ref D, V.ref t, V.bl true, V.ref d]) hS
    refine of_q (f := 2) (hp2'.same t3) (show upd G2 S (.lst [V.non, V.int 0, V.ref D, V.ref t, V.bl true, V.ref d]) S = _ from upd_same) (hp2'.ne hS) (by show 0 < 6; decide) (by show 6 ≤ 1000000; decide) fun x G4 hx hp4' k4' => ?_
    have k34 := (Kp.of t3).trans k4'
    have kG4 : Kp p G G4 := (Kp.of (t1.trans t2)).trans k34
    have kx : (∃ n, Kn G4 x n) ∧ isStrV x = false := by
      simp only [List.mem_cons, List.not_mem_nil, or_false] at hx
      rcases hx with rfl | rfl | rfl | rfl | rfl | rfl
      · exact ⟨⟨_, .non⟩, rfl⟩
      · exact ⟨⟨_, .int _⟩, rfl⟩
      · exact ⟨⟨_, .lst (kG4 _ _ nD hDG)⟩, rfl⟩
      · exact ⟨⟨_, .tup (k34 _ _ nt (t2 _ _ ht1))⟩, rfl⟩
      · exact ⟨⟨_, .bl _⟩, rfl⟩
      · exact ⟨⟨_, .dK (k34 _ _ nd hd2)⟩, rfl⟩
    have S4 := SAt.nl (hpG.nl kG4) SG
    have hD4 := kG4 _ _ nD hDG
    refine ⟨_, rfl, _, rfl, ?_⟩
    refine told_o S4 kx.1 kx.2 fun G5 t5 => ⟨rfl, _, rfl, ?_⟩
    rw [decide_eq_true rfl]
    have hD5 := t5 _ _ hD4
    have hln : lns fs ≠ [] := List.length_pos_iff.mp (by omega)
    have hsn := join_sum (fs := lns fs) (by omega) hlz (by decide)
    have nl1 : ("\n" : Str).length = 1 := by decide +kernel
    refine ⟨_, rfl, ⟨_, rfl⟩, _, rfl, _, D, lns fs, rfl, rfl, .inl (SqL.of hD5), hsn.1, _, _, rfl, rfl, by rw [nl1, sizeLine_eq]; omega, ?_⟩
    rw [← join_snoc hln]
    have hz1 : ∀ z ∈ lns fs ++ [("" : Str)], Ln 570 z := fun z hz => by
      rcases List.mem_append.mp hz with hz | hz
      · exact (hlz z hz).mono (by decide)
      · rw [List.mem_singleton.mp hz]
        exact ⟨Nat.zero_le _, by decide +kernel⟩
    refine told_q (SAt.same t5 S4) (by simp) (by rw [List.length_append, List.length_singleton]; omega) hz1 fun G6 t6 => ?_
    have ea : ans11 (stOf so lo) (lns fs ++ [("" : Str)]) = numS (((lns fs).length : Nat) + 1) := by
      rw [ans_num (by rw [List.length_append, List.length_singleton]; omega)]
      have hne : ¬ (lns fs ++ [("" : Str)] = [("" : Str)]) := fun e => by
        have := congrArg List.length e
        rw [List.length_append, List.length_singleton] at this
        omega
      unfold num11
      rw [if_neg hne, fwg, fw_empty, if_neg (by omega), hll]
      rfl
    rw [ea]
    have hD6' := t6 _ _ hD5
    refine ⟨_, rfl, _, (lns fs).length, rfl, .inl ⟨_, SqL.of hD6', by rw [List.length_map]⟩, _, _, rfl, rfl, _, rfl, Nat.lt_trans (log2_small (k := 40) (by decide) (by omega)) (by decide), rfl, _, rfl, ?_⟩
    rw [show decide (V.str (numS (((lns fs).length : Nat) + 1)) = V.str (Str.ofString (toString (((lns fs).length : Nat) + 1 : Int)))) = true from decide_eq_true rfl]
    refine ⟨_, rfl, (by show 4 ≤ sizeLine; decide), fun q hq => ?_⟩
    have t46 := t5.trans t6
    have hp6' := hp4'.same t46
    have t7 := same_new (o := .lst [V.int 29, V.int 30, V.int 31, V.int 35]) hq
    refine of_q (f := 1) (hp6'.same t7) (show upd G6 q (.lst [V.int 29, V.int 30, V.int 31, V.int 35]) q = _ from upd_same) (hp6'.ne hq) (by show 0 < 4; decide) (by show 4 ≤ 1000000; decide) fun y G8 hy hp8' k8' => ?_
    have k48 : Kp p G4 G8 := (Kp.of (t46.trans t7)).trans k8'
    have hD8 := k48 _ _ nD hD4
    have S8 := SAt.nl (hp4'.nl k48) S4
    obtain ⟨m, rfl, hm⟩ : ∃ m : Nat, y = .int (m : Nat) ∧ (m = 29 ∨ m = 30 ∨ m = 31 ∨ m = 35) := by
      simp only [List.mem_cons, List.not_mem_nil, or_false] at hy
      rcases hy with rfl | rfl | rfl | rfl
      · exact ⟨29, rfl, .inl rfl⟩
      · exact ⟨30, rfl, .inr (.inl rfl)⟩
      · exact ⟨31, rfl, .inr (.inr (.inl rfl))⟩
      · exact ⟨35, rfl, .inr (.inr (.inr rfl))⟩
    refine ⟨_, rfl, ⟨_, rfl⟩, (by show 1 ≤ sizeLine; decide), fun a1 ha1 => ?_⟩
    have u1 := same_new (o := .lst [V.str ""]) ha1
    refine ⟨_, rfl, a1, _, _, rfl, rfl, upd_same, by omega, by omega, (by show 1 * _ ≤ _; rw [Int.toNat_natCast, sizeLine_eq]; omega), fun a2 ha2 => ?_⟩
    rw [Int.toNat_natCast]
    have e2 : (List.replicate m [V.str ""]).flatten = (List.replicate m ("" : Str)).map V.str := by
      rw [List.flatten_replicate_singleton, List.map_replicate]
    rw [e2]
    have u2 := u1.trans (same_new (o := .lst ((List.replicate m ("" : Str)).map V.str)) ha2)
    have ea2 := (show upd (upd G8 a1 (.lst [V.str ""])) a2 (.lst ((List.replicate m ("" : Str)).map V.str)) a2 = _ from upd_same)
    generalize upd (upd G8 a1 (.lst [V.str ""])) a2 (.lst ((List.replicate m ("" : Str)).map V.str)) = G9 at u2 ea2 ⊢
    refine ⟨_, rfl, (1 : Int), rfl, D, _, rfl, SqL.of (u2 _ _ hD8), fun a3 ha3 => ?_⟩
    rw [show cutV ((lns fs).map V.str) none (some (1 : Int)) = ((lns fs).take 1).map V.str from cutT _ 1]
    have u3 := same_new (o := .lst (((lns fs).take 1).map V.str)) ha3
    have ht1' : ((lns fs).take 1).length = 1 := by rw [List.length_take]; omega
    refine ⟨a2, a3, _, _, rfl, rfl, u3 _ _ ea2, upd_same, by rw [List.length_map, List.length_map, List.length_replicate, ht1', sizeLine_eq]; omega, fun a4 ha4 => ?_⟩
    rw [map2]
    have u4 := u2.trans (u3.trans (same_new (o := .lst ((List.replicate m ("" : Str) ++ (lns fs).take 1).map V.str)) ha4))
    have hz2 : ∀ z ∈ List.replicate m ("" : Str) ++ (lns fs).take 1, Ln 570 z := fun z hz => by
      rcases List.mem_append.mp hz with hz | hz
      · rw [(List.mem_replicate.mp hz).2]
        exact ⟨Nat.zero_le _, by decide +kernel⟩
      · exact (hlz z (List.mem_of_mem_take hz)).mono (by decide)
    have hlen2 : (List.replicate m ("" : Str) ++ (lns fs).take 1).length = m + 1 := by rw [List.length_append, List.length_replicate, ht1']
    refine ⟨_, a4, List.replicate m ("" : Str) ++ (lns fs).take 1, rfl, rfl, .inl (SqL.of upd_same), (join_sum (by omega) hz2 (by decide)).1, ?_⟩
    refine told_q (SAt.same u4 S8) (List.length_pos_iff.mp (by omega)) (by omega) hz2 fun G10 u5 => ?_
    have ea3 : ans11 (stOf so lo) (List.replicate m ("" : Str) ++ (lns fs).take 1) = if m = 29 then "1" else "0" := by
      unfold ans11
      rw [hlen2]
      rcases hm with rfl | rfl | rfl | rfl
      · have hne : ¬ (List.replicate 29 ("" : Str) ++ (lns fs).take 1 = [("" : Str)]) := fun e => by
          have := congrArg List.length e
          rw [hlen2] at this
          exact absurd this (by decide)
        rw [if_neg (by decide), if_neg hne, show List.replicate 29 ("" : Str) = ("" : Str) :: List.replicate 28 ("" : Str) from rfl, List.cons_append, fw_empty]
        decide +kernel
      · rfl
      · rfl
      · rfl
    rw [ea3]
    refine ⟨_, rfl, _, _, rfl, rfl, _, _, rfl, rfl, _, rfl, ?_⟩
    have fin := k _ (kp6.trans (kpG.trans (kG4.trans (k48.trans (Kp.of (u4.trans u5))))))
    rcases hm with rfl | rfl | rfl | rfl
    all_goals
      refine ⟨rfl, ?_⟩
      exact fin
def spLaw (K : PySem.W.Frag) : Sp := sp1 fun a H Q _ => ∃ (s : Addr) (ns : List Int), a = .ref s ∧ SqL K H s (ns.map V.int) ∧ ns.length ≤ 63 ∧ ∀ H', Q (.bl true) H'
abbrev n_law : List Str := ["_law_script", "_law_k"]
theorem sc_law : FnScope n_law ["_law_script"] (defScope d_law) := ⟨rfl, rfl, rfl, by decide +kernel, rfl, by decide +kernel, by decide +kernel⟩
theorem ok_law' (T : Top w K mg) {fd : FuncData} (F : FunD K "law" "law" (defArgs d_law) (defBody d_law) (defScope d_law) [] [] (He.ga K "law") fd) : FnG prg w K mg base CX0 15 (He.ga K "law") fd ["_law_script"] (spLaw K) := by
  obtain ⟨fd_law_right, G_law_right, b_law_right, k_law_right⟩ := ok_law_right (base := base) T
  obtain ⟨fd_law_pot, G_law_pot, b_law_pot, k_law_pot⟩ := ok_law_pot (base := base) T
  refine funD_okG (k := 14) F sc_law (fun _ _ _ _ h => sp1_len h) (fun cdv A outer s H vs Q E hg hr h => ?_)
  obtain ⟨v0, rfl, h⟩ := h
  refine ⟨_, PSs.nox (pss_one (ps_ret (pe_callB (cr_all rfl) (by rfl) T.b_all (by decide +kernel) (pa_cons (pe_lc (own := [("_law_k", 1)]) (g := gName 1) (by rfl) sc_law.nd (pi_range1 (by rfl) T.b_range (pa_cons (pe_callB (call_max2 (by rfl)) (by rfl) T.b_max (by decide +kernel) (pa_cons pe_int (pa_cons (pe_callB (call_min2 (by rfl)) (by rfl) T.b_min (by decide +kernel) (pa_cons pe_int (pa_cons (pe_callB call_len (by rfl) T.b_len (by decide +kernel) (pa_cons (pv 0) pa_nil)) pa_nil))) pa_nil))) pa_nil)) (blkOk_by (N := n_law) (sc := defScope d_law) (own := [("_law_k", 1)]) (by decide +kernel)) (fun _ _ _ _ _ => (pg_name (i := 1) sc_law.nd rfl (Or.inl rfl) (.inr rfl))) (fun _ _ _ _ _ => pts_nil) (fun _ _ _ _ _ => (pe_callG G_law_right hg (hr.mono (by decide)) (by rfl) T.g_law_right k_law_right b_law_right .nil pass0 (pa_cons (pe_call G_law_pot (hr.mono (by decide)) (by rfl) T.g_law_pot k_law_pot b_law_pot .nil pass0 (pa_cons (pv 0) (pa_cons (pv 1) pa_nil))) pa_nil)))) pa_nil)))), ?_⟩
  obtain ⟨sa, ns, rfl, hS, hn, k⟩ := h
  refine ⟨_, rfl, _, (ns.map V.int).length, rfl, .inl ⟨_, hS, rfl⟩, _, _, rfl, _, _, rfl, _, rfl, ?_⟩
  obtain ⟨j, hj, hj0, hj1⟩ : ∃ j : Int, (if (if (((ns.map V.int).length : Nat) : Int) < 8 then (((ns.map V.int).length : Nat) : Int) else 8) > 1 then (if (((ns.map V.int).length : Nat) : Int) < 8 then (((ns.map V.int).length : Nat) : Int) else 8) else 1) = j ∧ 0 ≤ j ∧ j ≤ 8 := ⟨_, rfl, by split <;> split <;> omega, by split <;> split <;> omega⟩
  rw [hj]
  refine ⟨by omega, by omega, fun D hD => ?_⟩
  refine lc_fm (walk_range (lo := 0) (n := j.toNat)) (fun _ => some (V.bl true)) hD (by rw [sizeLine_eq]; omega) (fun _ _ => trivial) ?_ ?_
  · rintro i x H1 H2 Ky Kn hi s1 ⟨rfl, rfl⟩ ky kn
    refine ⟨rfl, _, rfl, _, rfl, _, _, rfl, sa, ns, _, rfl, s1.seq hS, by omega, by omega, hn, fun p l H3 hp hpl hp3 s3 => ?_⟩
    refine ⟨_, rfl, p, rfl, ⟨l, hp3, hpl.mono (by decide)⟩, fun H4 kp => ky _ _ rfl fun b o hb => kp b o (ne_of_none hb hp) (s3 b o hb)⟩
  · intro H1 s1 hD1
    refine ⟨D, (List.range j.toNat).map (fun _ => true), rfl, SqL.of ?_, ?_⟩
    · rw [hD1, fm_some, List.map_map]
      rfl
    · rw [show ((List.range j.toNat).map (fun _ => true)).all id = true by rw [List.all_eq_true]; intro b hb; obtain ⟨_, _, rfl⟩ := List.mem_map.mp hb; rfl]
      exact k H1
end
end SK
set_option maxHeartbeats 0
open PySem PySem.W PySem.Calls PyProof.Rows
theorem PySem.Challenge.cw_steadylabels_k11_lines_that_tell_no_labe_holds : PySem.Challenge.rw_steadylabels_k11_lines_that_tell_no_labe.Holds := by
  w_on; o_law
  refine HandSHeadRun.head_any (r := OpenLaw.row PySem.Challenge.rw_steadylabels_k11_lines_that_tell_no_labe) (q := view (OpenLaw.row PySem.Challenge.rw_steadylabels_k11_lines_that_tell_no_labe).prog [99]) (H := SK.hk) (ob := SK.ob) (M := 30000) (loose := SK.loose)
    (d := HandSHeadRun.topDef (OpenLaw.row PySem.Challenge.rw_steadylabels_k11_lines_that_tell_no_labe).prog 99) (kwd := []) SK.ob_eq SK.eh1 SK.eh2 SK.run SK.eh3 SK.eh4 SK.eh5 (by rfl)
    (by first | assumption | decide +kernel) SK.eh6 ⟨rfl, rfl, rfl, rfl, rfl, SK.eh7⟩ ?hw ?hc
  case hw => exact SK.eh8
  case hc =>
    refine SL.walk_ofG (l := PySem.Challenge.rw_steadylabels_k11_lines_that_tell_no_labe) (n := 63) (k := 15) (x := "_law_script") (CX := fun _ => L2.CX0) rfl (by decide) SK.eh9 ⟨rfl, by decide, by decide⟩ ?F (fun _ _ _ _ _ z => z)
    intro w mg fa h Y G hmg0
    obtain ⟨K, KX, o⟩ := Y
    have hmg : mg ("law" : PySem.Str) = some (.ref fa) := by
      have e : (HandSHeadRun.topDef (OpenLaw.row PySem.Challenge.rw_steadylabels_k11_lines_that_tell_no_labe).prog 99).name = ("law" : PySem.Str) := SK.eh10
      rw [← e]
      exact hmg0
    have T := SK.tops KX G o
    have e := hmg.symm.trans T.g_law
    cases e
    obtain ⟨fd, F⟩ := T.F_law
    have b := L2.FunD.bindsA (ps := ["_law_script"]) F fun _ _ _ _ _ _ us hl => match us, hl with | [_], _ => rfl
    refine ⟨K, fd, SK.spLaw K, KX, fun s v => b s [v] rfl, fun H a ns hl _ hS => ⟨.ref a, rfl, a, ns, rfl, hS, hl, fun _ => rfl⟩, fun base _ _ => ?_⟩
    exact SK.ok_law' T F
#print axioms PySem.Challenge.cw_steadylabels_k11_lines_that_tell_no_labe_holds
