import PyProof.Rows.All
import Wide.All
import OpenK.AllK
import Wide.FinOn
import HandS.ForMost
import HandS.ForExc
import HandS.HeadEnd
import HandS.Defaults
import HandS.ExcValue
import KE.KExcSuper
import KE.KExcIs
import HandS.ExcInit
import HandS.IsInst
import HandS.ExcSuper
import HandS.MakeKwOnly
import HandS.ExcField
import HandS.Wide
import HandS.SetFor
import HandS.Walk
import HandS.Head0
import HandS.Head1
import HandS.Head2
import HandS.HeadHook1
import HandS.HeadHook2
import PySem.Challenge.RW_steadylabels_k14_errors_by_themselves
set_option Elab.async false
set_option linter.all false
set_option maxRecDepth 100000
set_option maxHeartbeats 4000000
/-! a def's promise where no guard is under way (so that repr is told exactly) -/
namespace SL
open PySem PySem.Spec PyProof.Rows L2
structure FnG (P : Program) (w : World) (K : PySem.W.Frag) (mg : Str → Option Value) (base : Heap) (CX : CXT)
    (k : Nat) (f : Addr) (fd : FuncData) (ps : List Str) (sp : Sp) : Prop where
  len : ∀ vs H Q E, sp vs H Q E → vs.length = ps.length
  run : ∀ (A : Around) (outer : List Env) (s : Shared) (H : Hp) (args : Args) (us : List Value) (vs : List V) (Q : VK) (E : XK),
    A.guards = some [] → Room k A → Env0 P w K mg base A outer s H → BindsTo s fd args (ps.zip us) → Vals vs us → sp vs H Q E →
    codeAny (model P w) A (.call (.ref f) args) (CR CX outer P w H s Q E) s
theorem FnG.of {P : Program} {w : World} {K : PySem.W.Frag} {mg : Str → Option Value} {base : Heap} {CX : CXT}
    {k : Nat} {f : Addr} {fd : FuncData} {ps : List Str} {sp : Sp} (F : FnOk P w K mg base CX k f fd ps sp) : FnG P w K mg base CX k f fd ps sp :=
  ⟨F.len, fun A outer s H args us vs Q E _ => F.run A outer s H args us vs Q E⟩
/-- one entry of a def, at its own surroundings -/
theorem fn_at {CX : CXT} {P : Program} {w : World} {K : PySem.W.Frag} {mg : Str → Option Value} {base : Heap} {k : Nat} {f : Addr}
    {name qual : Str} {params : Arguments} {body : List Stmt} {scope : Scope} {dV kV doc pm cdv ct oc : Value} {an od : Option Addr}
    {osl : Array (Option Value)} {N ps : List Str} {A : Around} {outer : List Env} {s : Shared} {H : Hp} {args : Args} {us : List Value} {vs : List V} {Q : VK} {E : XK}
    (lk : K.lookup f = some ⟨oc, od, .func (PySem.W.fnOf name qual params body scope dV kV doc pm an cdv ct), osl⟩)
    (hcd : PySem.W.codeIn K cdv qual = true) (S : FnScope N ps scope) (hl : vs.length = ps.length)
    (hr : Room (k + 1) A) (e0 : Env0 P w K mg base A outer s H)
    (hb : BindsTo s (PySem.W.fnOf name qual params body scope dV kV doc pm an cdv ct) args (ps.zip us)) (r : Vals vs us)
    (hbody : ∃ t, PSs (cxOf CX P w K mg base N qual scope f cdv A outer s H E) body t ∧
      t { nx := fun _ H' => Q .non H', rt := Q } (start N vs) H) :
    codeAny (model P w) A (.call (.ref f) args) (CR CX outer P w H s Q E) s := by
  have kin0 : K.In s.heap := e0.mod.kin.keeps fun b o e => (e0.bs b o e).1
  have nl0 : s.heap.NoLimit := e0.mod.nolimit.keeps fun b o e => (e0.bs b o e).1
  have hkind : ∀ y ∈ ps.zip us, scope.names.lookup y.1 = some .local ∨
      (scope.names.lookup y.1 = some .cell ∧ ((cellsFrom (s.heap.objs.size + 1) scope.names []).lookup y.1).isSome = true) := by
    rintro ⟨n, v⟩ hy
    rcases S.par n (List.of_mem_zip hy).1 with q | q
    · exact Or.inl q
    · exact Or.inr ⟨q, PySem.W.cellsFrom_some _ _ _ (Or.inl q)⟩
  refine codeAny_call_function hr.depth (kin0 _ _ lk) rfl S.co S.gen rfl (PySem.W.codeRec_of kin0 hcd) (hb _ _ _ _ ?_)
  refine wpAny_newFunctionEnv_cells S.kind hkind fun env' he' s1 x1 => ?_
  subst he'
  refine ⟨nl0.keeps x1.toInCall.keep, codeAny_func ?_⟩
  obtain ⟨t, ht, hq⟩ := hbody
  have I0 : Inv (cxOf CX P w K mg base N qual scope f cdv A outer s H E) [] (start N vs) H s1 := inv_start S hr.hd e0 hl r x1
  refine wpAny_mono (ht.run [] s1 (start N vs) H _ I0 hq) (fun fl s' hs => ?_) (fun e s' hs => hs)
  cases fl with
  | ret u =>
    obtain ⟨v, σ', H', J, rv, q⟩ := hs
    exact ⟨v, H', J.os, J.bare, J.base, J.hok, rv, q⟩
  | next =>
    obtain ⟨σ', H', J, q⟩ := hs
    exact ⟨V.non, H', J.os, J.bare, J.base, J.hok, (rfl : Value.none = Value.none), q⟩
  | brk => exact (hs.elim fun _ z => z.elim fun _ y => y.2.elim)
  | cont => exact (hs.elim fun _ z => z.elim fun _ y => y.2.elim)
/-- a def by its body, no guard under way -/
theorem funD_okG {P : Program} {w : World} {K : PySem.W.Frag} {mg : Str → Option Value} {base : Heap} {x qual : Str} {params : Arguments}
    {body : List Stmt} {scope : Scope} {dvs : List V} {kws : List (Str × V)} {f : Addr} {fd : FuncData} {CX : CXT} {N ps : List Str} {k : Nat} {sp : Sp}
    (F : FunD K x qual params body scope dvs kws f fd) (S : FnScope N ps scope) (len : ∀ vs H Q E, sp vs H Q E → vs.length = ps.length)
    (hbody : ∀ (cdv : Value) (A : Around) (outer : List Env) (s : Shared) (H : Hp) (vs : List V) (Q : VK) (E : XK),
      (A.deeper (envOfC qual scope s.heap.objs.size f cdv)).guards = some [] → Room k (A.deeper (envOfC qual scope s.heap.objs.size f cdv)) → sp vs H Q E →
      ∃ t, PSs (cxOf CX P w K mg base N qual scope f cdv A outer s H E) body t ∧ t { nx := fun _ H' => Q .non H', rt := Q } (start N vs) H) :
    FnG P w K mg base CX (k + 1) f fd ps sp := by
  obtain ⟨oc, od, dV, kV, doc, pm, an, cdv, ct, osl, rfl, lk, hcd, _, _⟩ := F.ex
  refine ⟨len, fun A outer s H args us vs Q E hg hr e0 hb r hsp => ?_⟩
  exact fn_at lk hcd S (len _ _ _ _ hsp) hr e0 hb r (hbody cdv A outer s H vs Q E hg (hr.deeper _) hsp)
section
variable {X : Cx} {CX : CXT} {k : Nat} {f : Addr} {fd : FuncData} {ps : List Str} {sp : Sp} {dvs : List V} {ds : List Value} {E : XK} {x : Str} {p pos : Pos} {e : Expr} {es : List Expr} {t : TA}
theorem run_fnG {pins : List (Addr × Obj)} {σ : L2.St} {H : Hp} {s : Shared} {Q : VK} {us : List Value} {vs : List V}
    (F : FnG X.prog X.w X.K X.mg X.base CX k f fd ps sp) (hg : X.A.guards = some []) (hr : Room k X.A) (hb : Binds X.K fd ps ds) (hd : Vals dvs ds) (hx : Passes CX X E)
    (I : Inv X pins σ H s) (r : Vals vs us) (h : sp (vs ++ dvs) H Q E) : wpAny (model X.prog X.w) X.A (call (.ref f) us) (EP X pins σ Q) X.xe s := by
  have rr : Vals (vs ++ dvs) (us ++ ds) := Vals.append r hd
  have hl : (us ++ ds).length = ps.length := rr.length.symm.trans (F.len _ _ _ _ h)
  have go := F.run X.A X.stack s H ⟨us, []⟩ (us ++ ds) (vs ++ dvs) Q E hg hr I.env0 (hb s us I.kIn hl) rr h
  refine wpAny_call (codeAny_mono go fun res s' hq => ?_)
  cases res with
  | error e => exact hx pins σ H s e s' I hq
  | ok fl => cases fl with
    | ret u => exact I.after hq
    | next => exact hq.elim
    | brk => exact hq.elim
    | cont => exact hq.elim
/-- f(e, ..) of such a def -/
theorem pe_callG (F : FnG X.prog X.w X.K X.mg X.base CX k f fd ps sp) (hgd : X.A.guards = some []) (hr : Room k X.A) (hg : Gl X x) (hm : X.mg x = some (.ref f))
    (hk : PySem.W.keepIn X.K (.ref f) = true) (hb : Binds X.K fd ps ds) (hd : Vals dvs ds) (hx : Passes CX X E) (ha : PA X (e :: es) t)
    (hdb : (x == ("__debug__" : Str)) = false := by decide) (he : starEach (e :: es) X.env = (false, eval e X.env) :: starEach es X.env := by rfl)
    (hpl : (backTo pos (starEach es X.env)).any (·.1) = false := by rfl) : PE X (.Call (.Name x p) (e :: es) [] pos) (tCall sp dvs E t) := by
  constructor
  intro pins s σ H Q I h
  refine wpAny_Call_Name_kw (ld_glob I hg hm ?_ hdb)
  refine PySem.W.callWith_K (h₀ := X.base) I.ok.mod.kin hk ?_ he hpl
  exact thn (ha.run pos pins s σ H _ I h) fun us s1 ⟨vs, H1, I1, r, q⟩ => ⟨I1.kIn, run_fnG F hgd hr hb hd hx I1 r q⟩
end
/-- what the law's call is to end in -/
def LawEnd (s₁ : Shared) (r : Result) (s' : Shared) : Prop :=
  r = .ok (.ret (.bool true)) ∧ OldK s₁.heap s'.heap ∧ s'.os = s₁.os ∧ AllBare s'.gens
section
variable {P : Program} {w : World} {K : PySem.W.Frag} {mg mb : Str → Option Value} {CX : CXT} {k : Nat} {fa a : Addr}
  {fd : FuncData} {x : Str} {sp : Sp} {s₁ : Shared} {vs : List Value} {ns : List Int}
theorem law_core (KX : K.In s₁.heap) (hns : s₁.heap.Ns mainGlobals mg) (hb : s₁.heap.Ns builtinsNs mb)
    (hbb : ∀ x : Str, x ≠ "__name__" → mb x = bootBuiltins x) (hlim : s₁.heap.NoLimit) (hg : s₁.gens = #[])
    (ha : s₁.heap.get? a = some { cls := .type "list", data := .seq vs.toArray }) (hr : Room k callerA)
    (F : ∀ base : Heap, K.In base → base.Ns mainGlobals mg → FnG P w K mg base CX k fa fd [x] sp)
    (hbind : ∀ (s : Shared) (u : Value), BindsTo s fd ⟨[u], []⟩ [(x, u)])
    (hCX : ∀ H e s', CX [] H s₁ (fun _ _ _ => False) e s' → False)
    {H : Hp} (hO : Only H) (hok : HOk P w H s₁.heap) (hA : ∀ b, H b ≠ none → b = a) (hK : H a ≠ none → K.lookup a = none)
    (hsp : sp [.ref a] H (fun v _ => v = .bl true) fun _ _ _ => False) :
    codeAny (model P w) callerA (.call (.ref fa) ⟨[.ref a], []⟩) (LawEnd s₁) s₁ := by
  have free_of : ∀ {b : Addr}, b ≠ a → H b = none := fun {b} hne => by
    cases q : H b with
    | none => rfl
    | some u => exact absurd (hA b (by rw [q]; simp)) hne
  have lift : ∀ {b : Addr} {m : Str → Option Value}, s₁.heap.Ns b m → (hidT s₁.heap H).Ns b m := by
    rintro b m ⟨o, es, ep, e, d, r⟩
    refine ⟨o, es, ep, hidT_get e (free_of fun z => ?_), d, r⟩
    rw [z, ha] at e
    cases e
    have d' : Data.seq vs.toArray _ = Data.dict es ep := d
    cases d'
  have kb : K.In (hidT s₁.heap H) := by
    intro b o e
    refine hidT_get (KX b o e) ?_
    cases q : H b with
    | none => rfl
    | some u =>
      have eb : b = a := hA b (by rw [q]; simp)
      subst eb
      rw [hK (by rw [q]; simp)] at e
      cases e
  have md : Mod K mg (hidT s₁.heap H) := by
    obtain ⟨mc, c1, c2⟩ := hlim
    exact ⟨kb, lift hns, ⟨mb, lift hb, hbb⟩, ⟨mc, lift c1, c2⟩⟩
  have en : Env0 P w K mg (hidT s₁.heap H) callerA [] s₁ H := by
    refine ⟨rfl, md, fun b o e => of_hidT e, Nat.le_of_eq (hidT_size _ _), trivial, ?_, hok, .of_eq hg⟩
    intro b hb'
    exact absurd (show b ∈ ([] : List Addr) from hb') (by simp)
  have go := (F _ kb (lift hns)).run callerA [] s₁ H ⟨[.ref a], []⟩ [.ref a] [.ref a] _ _ rfl hr en (hbind s₁ (.ref a)) (.cons rfl .nil) hsp
  refine codeAny_mono go fun r s' h => ?_
  cases r with
  | error e => exact (hCX H e s' h).elim
  | ok fl => cases fl with
    | next => exact h.elim
    | brk => exact h.elim
    | cont => exact h.elim
    | ret u =>
      obtain ⟨v, H', os, bare, un, hok', r', q⟩ := h
      have q' : v = .bl true := q
      subst q'
      have eu : u = Value.bool true := r'
      subst eu
      refine ⟨rfl, OldK.of_keep ?_, os, bare⟩
      intro b o e
      rcases hO b with z | ⟨ob, xs, z⟩
      · exact un.keep b o e z (fun y => absurd (show b ∈ ([] : List Addr) from y) (by simp)) (by simp)
      · have e1 := (hok b _ z).1
        have e2 := (hok' b _ (un.frzs b ob _ z)).1
        rw [e] at e1
        cases e1
        exact e2
/-- the law's end over such a promise -/
theorem law_callG (KX : K.In s₁.heap) (hns : s₁.heap.Ns mainGlobals mg) (hb : s₁.heap.Ns builtinsNs mb)
    (hbb : ∀ x : Str, x ≠ "__name__" → mb x = bootBuiltins x) (hlim : s₁.heap.NoLimit) (hg : s₁.gens = #[])
    (ha : s₁.heap.get? a = some { cls := .type "list", data := .seq vs.toArray }) (hi : IntsAre vs ns) (hl : ns.length ≤ sizeLine) (hr : Room k callerA)
    (F : ∀ base : Heap, K.In base → base.Ns mainGlobals mg → FnG P w K mg base CX k fa fd [x] sp)
    (hbind : ∀ (s : Shared) (u : Value), BindsTo s fd ⟨[u], []⟩ [(x, u)])
    (hsp : ∀ H : Hp, Only H → SqL K H a (ns.map V.int) → sp [.ref a] H (fun v _ => v = .bl true) fun _ _ _ => False)
    (hCX : ∀ H e s', CX [] H s₁ (fun _ _ _ => False) e s' → False) :
    codeAny (model P w) callerA (.call (.ref fa) ⟨[.ref a], []⟩) (LawEnd s₁) s₁ := by
  have rv := vals_ints hi
  have hlen := hi.length
  cases hk : K.lookup a with
  | some o =>
    have e := KX a o hk
    rw [ha] at e
    cases e
    have sq : SqL K (fun _ => none) a (ns.map V.int) :=
      .inr ⟨_, vs.toArray, _, hk, rfl, rfl, rfl, by rw [List.size_toArray, hlen]; exact hl, by simpa using rv⟩
    have on : Only (fun _ => none) := fun _ => .inl rfl
    refine law_core KX hns hb hbb hlim hg ha hr F hbind hCX on ?_ (fun b z => absurd rfl z) (fun z => absurd rfl z) (hsp _ on sq)
    intro b u z
    cases (show (none : Option HO) = some u from z)
  | none =>
    let T : HO := .frz { cls := .type "list", data := .seq vs.toArray } (.lst (ns.map V.int))
    have hT : ∀ b, upd (fun _ => none) a T b = some T ∨ upd (fun _ => none) a T b = none := fun b => by
      by_cases hb' : b = a
      · left; rw [hb', upd_same]
      · right; rw [upd_ne hb']
    have on : Only (upd (fun _ => none) a T) := fun b => by
      rcases hT b with z | z
      · exact .inr ⟨_, _, z⟩
      · exact .inl z
    have hA : ∀ b, upd (fun _ => none) a T b ≠ none → b = a := fun b z => by
      by_cases hb' : b = a
      · exact hb'
      · exact absurd (upd_ne hb') z
    refine law_core KX hns hb hbb hlim hg ha hr F hbind hCX on ?_ hA (fun _ => hk) (hsp _ on (.inl (.inr ⟨_, upd_same⟩)))
    intro b u z
    have eb : b = a := hA b (by rw [z]; simp)
    subst eb
    rw [upd_same] at z
    cases z
    exact ⟨ha, by rw [List.length_map]; exact hl, vs, _, rv, ha⟩
end
theorem walk_ofG {l : PySem.W.OpenLaw} {n k : Nat} {q : Program} {loose : List Str} {XP : (Str → Option Value) → Heap → Prop} {YP : World → Heap → Prop} {d : DefRec} {CX : World → CXT} {x : Str}
    (hn : l.most = some n) (hn2 : n ≤ sizeLine) (hdf : d.params.defaults = []) (hr : Room k callerA)
    (F : ∀ (w : World) (mg : Str → Option Value) (fa : Addr) (h : Heap), YP w h → h.Ns mainGlobals mg → mg d.name = some (.ref fa) →
      ∃ (K : PySem.W.Frag) (fd : FuncData) (sp : Sp), K.In h ∧ (∀ (s : Shared) (u : Value), BindsTo s fd ⟨[u], []⟩ [(x, u)]) ∧
        (∀ (H : Hp) (a : Addr) (ns : List Int), ns.length ≤ n → Only H → SqL K H a (ns.map V.int) → sp [.ref a] H (fun v _ => v = .bl true) fun _ _ _ => False) ∧
        ∀ base : Heap, K.In base → base.Ns mainGlobals mg → FnG l.prog w K mg base (CX w) k fa fd [x] sp)
    (hCX : ∀ (w : World) (H : Hp) (s : Shared) (e : Value) (s' : Shared), CX w [] H s (fun _ _ _ => False) e s' → False) :
    PySem.W.WalkO q loose XP YP l.row.toRowW d [] (fun f vs => PySem.call f vs) := by
  refine Att.attach_call hn hdf ?_
  intro w s₀ s₁ mg mb fa o pm cd doc a vs ns G Y ho hd hcd hmg hobj hints hlen hg
  obtain ⟨K, fd, sp, KX, hb, hsp, hF⟩ := F w mg fa _ Y G.T.g hmg
  have hl : ns.length ≤ sizeLine := Nat.le_trans hlen hn2
  exact law_callG KX G.T.g G.T.b G.T.builtins G.T.nolimit hg hobj hints hl hr hF hb (fun H hO hS => hsp H a ns hlen hO hS) (fun H e s' => hCX w H s₁ e s')
end SL
set_option maxHeartbeats 4000000
/-! repr of nested data that is tracked -/
namespace SL
open PySem PySem.Spec PyProof.Rows L2
def kD : Key → PyData
  | .inl i => .int i
  | .inr x => .str x
mutual
/-- the data that a tracked value holds -/
inductive Rv (H : Hp) : V → PyData → Prop
  | non : Rv H .non .none
  | bl (b : Bool) : Rv H (.bl b) (.bool b)
  | int (i : Int) : Rv H (.int i) (.int i)
  | str (x : Str) : Rv H (.str x) (.str x)
  | lst {a : Addr} {xs : List V} {ds : List PyData} : H a = some (.lst xs) → RvL H xs ds → Rv H (.ref a) (.list ds)
  | tup {a : Addr} {xs : List V} {ds : List PyData} : H a = some (.tup xs) → RvL H xs ds → Rv H (.ref a) (.tuple ds)
  | dK {a : Addr} {kvs : List (Key × V)} {ps : List (PyData × PyData)} : H a = some (.dK kvs) → ps.map (·.1) = kvs.map (fun q => kD q.1) →
      RvL H (kvs.map (·.2)) (ps.map (·.2)) → Rv H (.ref a) (.dict ps)
inductive RvL (H : Hp) : List V → List PyData → Prop
  | nil : RvL H [] []
  | cons {v : V} {vs : List V} {d : PyData} {ds : List PyData} : Rv H v d → RvL H vs ds → RvL H (v :: vs) (d :: ds)
end
mutual
theorem Rv.same {H H' : Hp} (e : Same H H') : ∀ {v : V} {d : PyData}, Rv H v d → Rv H' v d
  | _, _, .non => .non
  | _, _, .bl b => .bl b
  | _, _, .int i => .int i
  | _, _, .str x => .str x
  | _, _, .lst h r => .lst (e _ _ h) (RvL.same e r)
  | _, _, .tup h r => .tup (e _ _ h) (RvL.same e r)
  | _, _, .dK h k r => .dK (e _ _ h) k (RvL.same e r)
theorem RvL.same {H H' : Hp} (e : Same H H') : ∀ {vs : List V} {ds : List PyData}, RvL H vs ds → RvL H' vs ds
  | _, _, .nil => .nil
  | _, _, .cons h r => .cons (Rv.same e h) (RvL.same e r)
end
theorem RvL.snoc {H : Hp} {v : V} {d : PyData} (h : Rv H v d) : ∀ {vs : List V} {ds : List PyData}, RvL H vs ds → RvL H (vs ++ [v]) (ds ++ [d])
  | _, _, .nil => .cons h .nil
  | _, _, .cons g r => .cons g (RvL.snoc h r)
theorem RvL.length {H : Hp} : ∀ {vs : List V} {ds : List PyData}, RvL H vs ds → vs.length = ds.length
  | _, _, .nil => rfl
  | _, _, .cons _ r => by rw [List.length_cons, List.length_cons, RvL.length r]
theorem RvL.ints (H : Hp) : ∀ ns : List Int, RvL H (ns.map V.int) (ns.map PyData.int)
  | [] => .nil
  | n :: ns => .cons (.int n) (RvL.ints H ns)
theorem RvL.strs (H : Hp) : ∀ ns : List Str, RvL H (ns.map V.str) (ns.map PyData.str)
  | [] => .nil
  | n :: ns => .cons (.str n) (RvL.strs H ns)
/-- fit to be shown -/
structure Sh (d : PyData) (n m : Nat) : Prop where
  sh : d.showable = true
  lf : d.leavesShort 40 = true
  dp : d.depth ≤ m
  wt : d.weight ≤ n
theorem Sh.mono {d : PyData} {n m n' m' : Nat} (h : Sh d n m) (hn : n ≤ n') (hm : m ≤ m') : Sh d n' m' := ⟨h.sh, h.lf, Nat.le_trans h.dp hm, Nat.le_trans h.wt hn⟩
theorem Sh.len {d : PyData} {n m : Nat} (h : Sh d n m) (hn : n ≤ 390000) : d.shown.length ≤ sizeLine := by
  have := PyData.shown_le 40 (by decide) d h.lf
  have e := h.wt
  rw [sizeLine_eq]
  omega
structure ShL (ds : List PyData) (n m : Nat) : Prop where
  sh : PyData.showableAll ds = true
  lf : PyData.leavesShortAll 40 ds = true
  dp : PyData.depthAll ds ≤ m
  wt : PyData.weightAll ds ≤ n
theorem ShL.nil {n m : Nat} : ShL [] n m := ⟨by simp only [PyData.showableAll], by simp only [PyData.leavesShortAll], by simp only [PyData.depthAll]; omega, by simp only [PyData.weightAll]; omega⟩
theorem ShL.cons {d : PyData} {ds : List PyData} {n k m : Nat} (h : Sh d n m) (r : ShL ds k m) : ShL (d :: ds) (n + 1 + k) m := by
  obtain ⟨a1, a2, a3, a4⟩ := h
  obtain ⟨b1, b2, b3, b4⟩ := r
  refine ⟨?_, ?_, ?_, ?_⟩
  · simp only [PyData.showableAll, a1, b1, Bool.and_self]
  · simp only [PyData.leavesShortAll, a2, b2, Bool.and_self]
  · simp only [PyData.depthAll]
    exact Nat.max_le.mpr ⟨a3, b3⟩
  · simp only [PyData.weightAll]
    omega
theorem ShL.mono {d : List PyData} {n m n' m' : Nat} (h : ShL d n m) (hn : n ≤ n') (hm : m ≤ m') : ShL d n' m' := ⟨h.sh, h.lf, Nat.le_trans h.dp hm, Nat.le_trans h.wt hn⟩
theorem ShL.of {n m : Nat} : ∀ {ds : List PyData}, (∀ d ∈ ds, Sh d n m) → ShL ds (ds.length * (n + 1)) m
  | [], _ => .nil
  | d :: ds, h => by
    have := ShL.cons (h d List.mem_cons_self) (ShL.of (ds := ds) fun x hx => h x (List.mem_cons_of_mem _ hx))
    refine this.mono ?_ (Nat.le_refl _)
    rw [List.length_cons, Nat.add_mul]
    omega
theorem Sh.list {ds : List PyData} {n m : Nat} (h : ShL ds n m) : Sh (.list ds) n (m + 1) :=
  ⟨by simp only [PyData.showable]; exact h.sh, by simp only [PyData.leavesShort]; exact h.lf, by simp only [PyData.depth]; have := h.dp; omega, by simp only [PyData.weight]; exact h.wt⟩
theorem Sh.tuple {ds : List PyData} {n m : Nat} (h : ShL ds n m) : Sh (.tuple ds) n (m + 1) :=
  ⟨by simp only [PyData.showable]; exact h.sh, by simp only [PyData.leavesShort]; exact h.lf, by simp only [PyData.depth]; have := h.dp; omega, by simp only [PyData.weight]; exact h.wt⟩
theorem Sh.none {n m : Nat} : Sh .none n m := ⟨by simp only [PyData.showable], by simp only [PyData.leavesShort], by simp only [PyData.depth]; omega, by simp only [PyData.weight]; omega⟩
theorem Sh.bool {b : Bool} {n m : Nat} : Sh (.bool b) n m := ⟨by simp only [PyData.showable], by simp only [PyData.leavesShort], by simp only [PyData.depth]; omega, by simp only [PyData.weight]; omega⟩
theorem log2_small {a k : Nat} (hk : 0 < k) (h : a < 2 ^ k) : a.log2 < k := by
  by_cases e : a = 0
  · subst e
    have : Nat.log2 0 = 0 := by decide
    omega
  · exact (Nat.log2_lt e).mpr h
theorem Sh.int {i : Int} {m : Nat} (h : i.natAbs < 10 ^ 30) : Sh (.int i) 200 m := by
  have hl : i.natAbs.log2 < 101 := log2_small (by decide) (Nat.lt_of_lt_of_le h (by decide))
  refine ⟨?_, ?_, by simp only [PyData.depth]; omega, ?_⟩
  · simp only [PyData.showable, decide_eq_true_eq]
    omega
  · have e := int_text_length_le10 (a := i) (k := 30) (by decide) h
    have e2 : (Str.ofString (toString i)).length ≤ 40 := by
      rw [PySem.ofString_length]
      omega
    simp only [PyData.leavesShort, PyData.shown]
    exact decide_eq_true e2
  · simp only [PyData.weight]
    split <;> omega
theorem Sh.str {x : Str} {n m : Nat} (h : ∀ c ∈ x.cps.toList, c < 16 ^ 8) (hl : x.length ≤ n) : Sh (.str x) n m := by
  refine ⟨by simp only [PyData.showable], ?_, by simp only [PyData.depth]; omega, by simp only [PyData.weight]; exact hl⟩
  simp only [PyData.leavesShort, List.all_eq_true, decide_eq_true_eq]
  exact h
theorem Sh.dict1 {k v : PyData} {n j m : Nat} (hk : Sh k j m) (hv : Sh v n m) : Sh (.dict [(k, v)]) (j + n + 2) (m + 1) := by
  obtain ⟨a1, a2, a3, a4⟩ := hk
  obtain ⟨b1, b2, b3, b4⟩ := hv
  refine ⟨?_, ?_, ?_, ?_⟩
  · simp only [PyData.showable, PyData.showableKv, a1, b1, Bool.and_self]
  · simp only [PyData.leavesShort, PyData.leavesShortKv, a2, b2, Bool.and_self]
  · simp only [PyData.depth, PyData.depthKv]
    have : max (max k.depth v.depth) 0 ≤ m := Nat.max_le.mpr ⟨Nat.max_le.mpr ⟨a3, b3⟩, Nat.zero_le _⟩
    omega
  · simp only [PyData.weight, PyData.weightKv]
    omega

section
variable {X : Cx} {pins : List (Addr × Obj)} {σ : L2.St} {H : Hp} {s : Shared}
theorem not_sys (I : Inv X pins σ H s) (hs : (X.K.lookup sysModules).isSome = true) {a : Addr} {o : HO} (h : H a = some o) : a ≠ sysModules := by
  intro e
  obtain ⟨ob, hk⟩ := Option.isSome_iff_exists.mp hs
  have z := (I.bs sysModules ob (I.mod.kin _ _ hk)).2
  rw [← e, h] at z
  cases z
theorem pairs_keys {P : Program} {w : World} {h : Heap} : ∀ {es : List DictEntry} {vs : List (Key × Value)}, Pairs (mixKind P w) es vs → ReadsAll h (es.map (·.key)) (vs.map fun q => kD q.1) []
  | _, _, .nil => .nil
  | _, _, .cons (e := e) (kv := kv) hk _ r => by
    have rr := pairs_keys (h := h) r
    rcases keyIs_shape (show keyIs kv.1 e.key = true from hk) with ⟨i, t, e1, e2⟩ | ⟨x, t, e1, e2⟩
    · simp only [List.map_cons, e1, e2, kD]
      exact .cons (as := []) (bs := []) (.int i t) rr
    · simp only [List.map_cons, e1, e2, kD]
      exact .cons (as := []) (bs := []) (.str x t) rr
theorem pairs_vals {P : Program} {w : World} : ∀ {es : List DictEntry} {vs : List (Key × Value)}, Pairs (mixKind P w) es vs → es.map (·.val) = vs.map (·.2)
  | _, _, .nil => rfl
  | _, _, .cons _ hv r => by
    rw [List.map_cons, List.map_cons, hv, pairs_vals r]
theorem kv_keys : ∀ {kvs : List (Key × V)} {vs : List (Key × Value)}, KV kvs vs → kvs.map (fun q => kD q.1) = vs.map fun q => kD q.1
  | _, _, .nil => rfl
  | _, _, .cons h r => by rw [List.map_cons, List.map_cons, h.1, kv_keys r]
theorem kv_vals : ∀ {kvs : List (Key × V)} {vs : List (Key × Value)}, KV kvs vs → Vals (kvs.map (·.2)) (vs.map (·.2))
  | _, _, .nil => .nil
  | _, _, .cons h r => .cons h.2 (kv_vals r)
mutual
theorem Rv.reads (I : Inv X pins σ H s) (hs : (X.K.lookup sysModules).isSome = true) : ∀ {v : V} {d : PyData} {u : Value}, Rv H v d → RelV v u → ∃ as, Reads s.heap u d as ∧ sysModules ∉ as
  | _, _, _, .non, r => by cases r; exact ⟨[], .none, by simp⟩
  | _, _, _, .bl b, r => by cases r; exact ⟨[], .bool b, by simp⟩
  | _, _, _, .int i, r => by obtain ⟨t, rfl⟩ := r; exact ⟨[], .int i t, by simp⟩
  | _, _, _, .str x, r => by obtain ⟨t, rfl⟩ := r; exact ⟨[], .str x t, by simp⟩
  | _, _, _, .lst (a := a) h q, r => by
    cases r
    obtain ⟨_, its, n, rv, e⟩ := I.hok a _ h
    obtain ⟨as, ra, hn⟩ := RvL.reads I hs q rv
    refine ⟨a :: as, .list e rfl rfl (by simpa using ra), fun hm => ?_⟩
    rcases List.mem_cons.mp hm with z | z
    · exact not_sys I hs h z.symm
    · exact hn z
  | _, _, _, .tup (a := a) h q, r => by
    cases r
    obtain ⟨_, its, rv, o, e, hc, n, hd⟩ := I.hok a _ h
    obtain ⟨as, ra, hn⟩ := RvL.reads I hs q rv
    exact ⟨as, .tuple e hc hd (by simpa using ra), hn⟩
  | _, _, _, .dK (a := a) (kvs := kvs) (ps := ps) h k q, r => by
    cases r
    obtain ⟨_, _, vs, kv, o, es, ep, e, hx, hd, _, pr, _⟩ := I.hok a _ h
    obtain ⟨as, ra, hn⟩ := RvL.reads I hs q (kv_vals kv)
    have rk : ReadsAll s.heap (es.toList.map (·.key)) (ps.map (·.1)) [] := by
      rw [k, kv_keys kv]
      exact pairs_keys pr
    have rv : ReadsAll s.heap (es.toList.map (·.val)) (ps.map (·.2)) as := by
      rw [pairs_vals pr]
      exact ra
    refine ⟨a :: [] ++ as, .dict e hx.1 hd rk rv, fun hm => ?_⟩
    rcases List.mem_cons.mp hm with z | z
    · exact not_sys I hs h z.symm
    · exact hn z
theorem RvL.reads (I : Inv X pins σ H s) (hs : (X.K.lookup sysModules).isSome = true) : ∀ {vs : List V} {ds : List PyData} {us : List Value}, RvL H vs ds → Vals vs us → ∃ as, ReadsAll s.heap us ds as ∧ sysModules ∉ as
  | _, _, _, .nil, r => by cases r; exact ⟨[], .nil, by simp⟩
  | _, _, _, .cons h q, r => by
    cases r with
    | cons r1 r2 =>
      obtain ⟨as, ra, ha⟩ := Rv.reads I hs h r1
      obtain ⟨bs, rb, hb⟩ := RvL.reads I hs q r2
      exact ⟨as ++ bs, .cons ra rb, fun hm => (List.mem_append.mp hm).elim ha hb⟩
end
end
/-- repr(x) -/
def rRepr : List V → Hp → VK → Prop := fun xs H Q => ∃ (v : V) (d : PyData), xs = [v] ∧ Rv H v d ∧ Sh d 390000 40 ∧ Q (.str d.shown) H
theorem call_repr {X : Cx} {k : Nat} (hr : Room k X.A) (hg : X.A.guards = some []) (hs : (X.K.lookup sysModules).isSome = true) : CallR X (.builtin "repr") rRepr := by
  intro pins s σ H xs us Q I r h
  obtain ⟨v, d, rfl, rv, sh, q⟩ := h
  obtain ⟨u, rfl, ru⟩ := vals1 r
  have hz := sh.len (Nat.le_refl _)
  have hu := hr.units
  have key : ∀ {a : Addr}, v = .ref a → wpAny (model X.prog X.w) X.A (call (.builtin "repr") [u]) (EP X pins σ Q) X.xe s := by
    intro a e
    obtain ⟨as, ra, hn⟩ := Rv.reads I hs rv ru
    subst e
    cases ru
    have hd := sh.dp
    exact repr_of_reads' ra sh.sh (fun _ => hn) hg (by omega) (fun _ _ z => z) (fun h' u tk hk => ⟨.str d.shown, H, I.kept hk, ⟨u, rfl⟩, q⟩) hz
  cases rv with
  | non =>
    cases ru
    exact PySem.P.repr_of_none ⟨.str _, H, I.tok _, ⟨_, rfl⟩, by simpa only [PyData.shown] using q⟩
  | bl b =>
    cases ru
    exact PySem.P.repr_of_bool ⟨.str _, H, I.tok _, ⟨_, rfl⟩, by simpa only [PyData.shown] using q⟩
  | int i =>
    obtain ⟨t, rfl⟩ := ru
    have hi := sh.sh
    simp only [PyData.showable, decide_eq_true_eq] at hi
    exact PySem.P.repr_of_int hi ⟨.str _, H, I.tok _, ⟨_, rfl⟩, by simpa only [PyData.shown] using q⟩
  | str x =>
    obtain ⟨t, rfl⟩ := ru
    exact PySem.P.repr_of_str ⟨.str _, H, I.tok _, ⟨_, rfl⟩, by simpa only [PyData.shown] using q⟩ (by simpa only [PyData.shown] using hz)
  | lst h r => exact key rfl
  | tup h r => exact key rfl
  | dK h k r => exact key rfl
end SL
set_option maxHeartbeats 4000000
/-! the errors: a class over ValueError whose __init__ says super().__init__(value) and keeps the value, and the classes below it -/
namespace SL
open PySem PySem.Spec PyProof.Rows L2
/-- the two statements of __init__ -/
def erB (p0 p1 p2 p3 p4 p5 p6 p7 p8 p9 : Pos) : List Stmt := [
  .Expr (.Call (.Attribute (.Call (.Name "super" p0) [] [] p1) "__init__" p2) [.Name "value" p3] [] p4) p5,
  .Assign [.Attribute (.Name "self" p6) "value" p7] (.Name "value" p8) p9]
def erA (q1 q2 : Pos) : Arguments := { posonlyargs := [], args := [{ arg := "self", annotation := none, pos := q1 }, { arg := "value", annotation := none, pos := q2 }], vararg := none, kwonlyargs := [], kw_defaults := [], kwarg := none, defaults := [] }
def erS : Scope := { kind := .function, names := [("self", .local), ("value", .local), ("__class__", .free), ("super", .globalImplicit)], isGenerator := false, isCoroutine := false, more := [] }
/-- what the written part says of the __init__ at fI: cc its cell, D the class that it names -/
structure IniT (P : Program) (K : PySem.W.Frag) (D fI : Addr) (fd : FuncData) : Prop where
  fn : ∃ (oc : Value) (od : Option Addr) (dV kV doc pm : Value) (an : Option Addr) (cda : Addr) (ct : Value) (osl : Array (Option Value)) (cc : Addr) (q1 q2 p0 p1 p2 p3 p4 p5 p6 p7 p8 p9 : Pos),
    fd = PySem.W.ksFn "__init__" "LabelError.__init__" (erA q1 q2) (erB p0 p1 p2 p3 p4 p5 p6 p7 p8 p9) erS dV kV doc pm an (.ref cda) ct cc ∧
    (p2.endLine == p4.line) = true ∧ K.lookup fI = some ⟨oc, od, .func fd, osl⟩ ∧ PySem.W.codeIn K (.ref cda) "LabelError.__init__" = true ∧
    (∃ ccl cdd vs ccs file tf, K.lookup cda = some ⟨ccl, cdd, .fields vs, ccs⟩ ∧ vs[2]? = some (.str file tf) ∧ ((P.main.file : Str) == file) = true) ∧
    (∃ cl cld csl, K.lookup cc = some ⟨cl, cld, .cell (some (.ref D)), csl⟩)
  clD : (PySem.W.clsIn K D).isSome = true
  noS : (P.main.scope.names.lookup ("super" : Str)).isSome = false
  tp : PySem.W.nsIn K cStatics "thirdparty.any" = some none
/-- .. of an error's class C -/
structure ErrC (K : PySem.W.Frag) (D fI C : Addr) : Prop where
  cls : ∃ nm q N bs bm sn sub ab col dd k0 k1 k2 k3 k5, K.lookup C = some (excClassObj nm q C N bs bm true sn sub ab col dd k0 k1 k2 k3 k5 "ValueError.__new__") ∧ PySem.HandSPX.refsVE bm = true
  sa : PySem.W.findIn K (.ref C) "__setattr__" = some (some (.builtin "object.__setattr__"))
  ga : PySem.W.findIn K (.ref C) "__getattribute__" = some (some (.builtin "BaseException.__getattribute__"))
  gg : PySem.W.findIn K (.ref C) "__getattr__" = some none
  noV : PySem.W.findIn K (.ref C) "value" = some none
  iC : PySem.W.findIn K (.ref C) "__init__" = some (some (.ref fI))
  tI : PySem.W.typeIn K (.ref fI) = some (.type "function")
  kC : PySem.W.keepIn K (.ref C) = true
  exC : PySem.W.subIn K (.ref C) (.type "BaseException") = some true
  vaC : PySem.W.subIn K (.ref C) (.type "ValueError") = some true
  tyC : PySem.W.typeIn K (.ref C) = some (.type "type")
  hdC : PySem.W.hasDictIn K C = true
  mD : PySem.W.mroIn K C (.ref D) = some true
  sup : PySem.W.ks_superIn K C D "__init__" = some (some (.builtin "ValueError.__init__"))
  cl : PySem.W.findIn K (.ref C) "__class__" = some (some (.builtin "object.__class__"))
  sp : PySem.W.specialIn K (.builtin "object.__class__") "__get__" = some (some (.builtin "getset_descriptor.__get__"))
  tk : PySem.W.takesIn K (.builtin "object.__class__") = some true
  ob : PySem.W.mroIn K C (.type "object") = some true
/-- what __init__ leaves of a fresh exception at x -/
structure ErEnd (h h' : Heap) (x C dx t1 : Addr) (v : Value) : Prop where
  keep : ∀ b o, b ≠ x → h.get? b = some o → h'.get? b = some o
  obj : h'.get? x = some { cls := .ref C, dict := some dx, data := .fields #[.ref t1, .none, .none, .none, .bool false, .none] }
  dbig : h.objs.size ≤ dx
  dne : dx ≠ x
  ns : h'.Ns1 dx (fun y => if y = "value" then some v else none)
section
open PySem.W PySem.Calls PySem.HandSPX
variable {prog : Program} {w : World} {A : Around} {E : Value → Shared → Prop} {R : Result → Shared → Prop} {s : Shared} {K : Frag} {mg mb : Str → Option Value} {C D fI : Addr} {fd : FuncData}
theorem er_nocell : ∀ x ∈ erS.names, x.2 ≠ NameKind.cell := by decide
theorem er_lo : erS.names.lookup ("self" : Str) = some NameKind.local ∧ erS.names.lookup ("value" : Str) = some NameKind.local := by decide
abbrev er_pl (p0 p1 : Pos) (env : Env) : Sem Bool := do return (← importBound (.Call (.Name "super" p0) [] [] p1) env).getD true
theorem er_eval {p0 p1 p2 p3 p4 : Pos} (env : Env) (h : (p2.endLine == p4.line) = true) :
    eval (.Call (.Attribute (.Call (.Name "super" p0) [] [] p1) "__init__" p2) [.Name "value" p3] [] p4) env = (do
      let ov ← attributeBase (.Call (.Name "super" p0) [] [] p1) "__init__" env (eval (.Call (.Name "super" p0) [] [] p1) env)
      standAt p2.atName
      let (f, first) ← holding [ov] (getMethod ov "__init__" (er_pl p0 p1 env))
      callWith p4 f first (backTo p4 (starEach [.Name "value" p3] env)) []) := by
  show (do
      let ov ← attributeBase (.Call (.Name "super" p0) [] [] p1) "__init__" env (eval (.Call (.Name "super" p0) [] [] p1) env)
      standAt p2.atName
      let (f, first) ← holding [ov] (getMethod ov "__init__" (er_pl p0 p1 env))
      let cp ← methodCallPos true (.Call (.Name "super" p0) [] [] p1) env p2 p4
      callWith cp f first (backTo p4 (starEach [.Name "value" p3] env)) []) = _
  have e : methodCallPos true (.Call (.Name "super" p0) [] [] p1) env p2 p4 = pure p4 := by
    unfold methodCallPos
    rw [h]
    rfl
  rw [e]
  rfl
theorem boot_super : bootBuiltins "super" = some (.type "super") := by decide +kernel
/-- super().__init__(v), the bound built-in called -/
theorem er_base (T : ErrC K D fI C) {h : Heap} {g : Array GenState} {d : Drawn} {t : Nat} {os : OsState} {u x t0 : Addr} {v : Value} {Q : Value → Shared → Prop}
    (X : K.In h) (hx : h.get? x = some (excO C t0)) (hu : h.get? u = some (kxs_mw "ValueError.__init__" x))
    (hq : ∀ h' t1, (∀ b o, b ≠ x → h.get? b = some o → h'.get? b = some o) → h'.get? x = some (excO C t1) → Q .none ⟨h', g, d, t, os⟩) :
    wpAny (model prog w) A (call (.ref u) [v]) Q E ⟨h, g, d, t, os⟩ := by
  obtain ⟨nm, q, N, bs, bm, sn, sub, ab, col, dd, k0, k1, k2, k3, k5, hC, hbm⟩ := T.cls
  refine wpAny_call (codeAny_of_tree ?_)
  show wpAny _ A.in1 (callAny (.ref u) ⟨[v], []⟩) _ _ _
  simp only [callAny]
  refine wpAny_bind (wpAny_load hu ?_)
  have e1 : (Value.type "method-wrapper" == Value.type "method" || Value.type "method-wrapper" == Value.type "builtin_function_or_method" || Value.type "method-wrapper" == Value.type "method-wrapper") = true := by decide
  simp only [kxs_mw, e1, if_true]
  refine KFB.if_so (by decide) ?_
  refine wpAny_bind (check_bound_init F.excBase_ValueError.toExcCallFacts (X _ _ hC) hx rfl ?_)
  refine wpAny_bind (wpAny_pure (wpAny_pure ?_))
  refine ⟨plainId_quiet F.excBase_ValueError.init.plain _, codeAny_builtin F.excBase_ValueError.initEntry ?_⟩
  refine exc_init_tree (cls := .ref C) (t0 := t0) (dv := none) (c2 := .none) (c3 := .none) (b4 := .bool false) hx (by rw [sizeLine_eq]; exact (by decide : 1 ≤ 16777216)) fun h' k e' _ => ?_
  exact hq h' _ k e'
theorem er_init (I0 : IniT prog K D fI fd) (T : ErrC K D fI C) {x t0 : Addr} {v : Value} {args : Args} (X : K.In s.heap)
    (hn : s.heap.Ns mainGlobals mg) (hb : s.heap.Ns builtinsNs mb) (hsu : mg "super" = none) (hbs : mb "super" = some (.type "super"))
    (hlim : s.heap.NoLimit) (hx : s.heap.get? x = some (excO C t0)) (hnx : K.lookup x = none) (hroom : A.depth < recursionLimit)
    (hbind : BindsTo s fd args [("self", .ref x), ("value", v)])
    (hq : ∀ h' tk dx t1, ErEnd s.heap h' x C dx t1 v → R (.ok (.ret .none)) { s with heap := h', toks := tk }) :
    codeAny (model prog w) A (.call (.ref fI) args) R s := by
  obtain ⟨oc, od, dV, kV, doc, pm, an, cda, ct, osl, cc, q1, q2, p0, p1, p2, p3, p4, p5, p6, p7, p8, p9, efd, hpos, lk, hcd, ⟨ccl, cdd, vs, ccs, file, tf, lc, hvs, hfile⟩, ⟨cl, cld, csl, lcell⟩⟩ := I0.fn
  obtain ⟨nm, q, N, bs, bm, sn, sub, ab, col, dd, k0, k1, k2, k3, k5, hC, hbm⟩ := T.cls
  have hcl : clsIn K C = some { name := nm, bases := bs, mro := .ref C :: bm, ns := N, qualname := q, hasDict := true, slotNames := sn, subclasses := sub, abstract := ab, collection := col, hasDel := false } := by
    unfold clsIn
    rw [hC] <;> rfl
  have hsup := T.sup
  subst efd
  refine ks_codeAny_call_defAt (body := erB p0 p1 p2 p3 p4 p5 p6 p7 p8 p9) hroom (X _ _ lk) rfl hlim (codeRec_of X hcd) rfl hbind er_nocell (by intro y hy; simp only [List.mem_cons, List.not_mem_nil, or_false] at hy; rcases hy with rfl | rfl; exact er_lo.1; exact er_lo.2) (fun h₁ hns hk₁ => ?_)
  have X₁ : K.In h₁ := X.keeps hk₁
  have hx₁ := hk₁ _ _ hx
  have I₁ : InstAt h₁ x (excO C t0) C none := ⟨hx₁, rfl, rfl, trivial⟩
  obtain ⟨oD, hD1, cdD, hD2⟩ : ∃ oD, h₁.get? D = some oD ∧ ∃ cdD, oD.data = .cls cdD := by
    obtain ⟨cdD, hD⟩ := Option.isSome_iff_exists.mp I0.clD
    unfold clsIn at hD
    split at hD
    · rename_i c d cd' sl ho
      exact ⟨_, X₁ _ _ ho, _, rfl⟩
    · cases hD
  have hval : List.lookup ("value" : Str) ([("self", Value.ref x), ("value", v)] : List (Str × Value)).reverse = some v := by
    show List.lookup ("value" : Str) [(("value" : Str), v), (("self" : Str), Value.ref x)] = some v
    simp [List.lookup]
  have nvs : (("self" : Str) == ("value" : Str)) = false := by decide
  have hself : List.lookup ("self" : Str) ([("self", Value.ref x), ("value", v)] : List (Str × Value)).reverse = some (Value.ref x) := by
    show List.lookup ("self" : Str) [(("value" : Str), v), (("self" : Str), Value.ref x)] = some (Value.ref x)
    simp [List.lookup, nvs]
  refine ks_wpAt_execs_cons (ks_wpAt_Expr_any (ks_wpAt_MethodCall (pl := er_pl p0 p1 _) (he := er_eval _ hpos) (ks_wpAt_super_base (f := fI) (cc := cda) rfl rfl (by decide) rfl (X₁ _ _ lk) rfl rfl rfl (X₁ _ _ lc) rfl hvs hfile I0.noS ?_)))
  refine ks_loadName_global rfl rfl (loadGlobal_builtin (hn.keeps hk₁) hsu (hb.keeps hk₁) hbs ⟨rfl, ?_⟩)
  refine wpAny_loadName_free rfl rfl rfl ⟨_, X₁ _ _ lcell, rfl⟩ ?_
  refine wpAny_loadName_local rfl rfl hns hself ?_
  refine ks_wpAny_isType_cls hD1 hD2 ⟨rfl, ?_⟩
  refine ks_wpAny_call_super hD1 hD2 hx₁ rfl (fun c e => by cases e) (looks_mroIn X₁ T.mD) (fun h₂ so2 k₂ => ?_)
  have X₂ : K.In h₂ := X₁.keeps k₂
  have hI : Looks (model prog w) h₂ (isInstance (.ref x) (.type "ValueError")) true := (InstAt.type (od := none) ⟨k₂ _ _ hx₁, rfl, rfl, trivial⟩).andThen (looks_subIn X₂ T.vaC)
  unfold ks_superIn at hsup
  rw [hcl] at hsup
  refine kxs_getMethod kxs_ValueError so2 (looks_opaque X₂ I0.tp) (l₀ := .ref C :: bm) ?_ rfl X₂ hsup hI (ks_ne X₁ I₁ hcl) (by decide) ?_
  · exact fun A Q E s k q => wpAny_bind ((looks_clsIn X₂ hcl) A _ E s k (wpAny_pure q))
  · have hm3 : (h₂.push (kxs_mw "ValueError.__init__" x)).get? h₂.objs.size = some (kxs_mw "ValueError.__init__" x) := Heap.get?_push_at rfl rfl
    have k3 : ∀ b o, h₁.get? b = some o → (h₂.push (kxs_mw "ValueError.__init__" x)).get? b = some o := fun b o e => Heap.get?_push_of_some _ (k₂ _ _ e)
    refine kxs_callWith (i := "ValueError.__init__") (x := x) rfl ?_
    refine evalArgs_plain (Calls.spliced_cons ?_)
    refine ESX.ldL (hns.keeps k3) hval ?_
    refine Calls.spliced_nil ⟨hm3, ?_⟩
    show wpAny _ _ (call (.ref h₂.objs.size) [v]) _ _ _
    refine er_base T (X₁.keeps k3) (k3 _ _ hx₁) hm3 fun h₄ t1 k₄ hx₄ => ?_
    have k4 : ∀ b o, b ≠ x → h₁.get? b = some o → h₄.get? b = some o := fun b o hb e => k₄ b o hb (k3 b o e)
    have X₄ : K.In h₄ := fun b o e => k4 b o (fun z => by rw [z, hnx] at e; cases e) (X₁ b o e)
    have hL : s.heap.objs.size ≠ x := Nat.ne_of_gt (Heap.lt_size hx)
    have hns₄ : h₄.Ns s.heap.objs.size (fun y => List.lookup y ([("self", Value.ref x), ("value", v)] : List (Str × Value)).reverse) := by
      obtain ⟨o, es, ep, ho, r⟩ := hns
      exact ⟨o, es, ep, k4 _ _ hL ho, r⟩
    refine wpAt_of_wpAny ?_
    refine wpAny_execs_cons (plainObj_wpAny_Assign_Attribute ?_)
    refine ESX.ldL hns₄ hval (ESX.ldL hns₄ hself ?_)
    refine set_plain X₄ (ox := excO C t1) (od := none) ⟨hx₄, rfl, rfl, trivial⟩ T.sa ?_
    refine exc_osa X₄ hx₄ hcl (show refsVE (.ref C :: bm) = true from hbm) rfl T.noV (fun h₅ tk₅ dx k₅ dn dne hx₅ hn₅ => ?_)
    have hlt : s.heap.objs.size < h₄.objs.size := hns₄.lt
    refine wpAny_execs_nil (hq h₅ tk₅ dx t1 ⟨fun b o hb e => k₅ b o hb (k4 b o hb (hk₁ b o e)), hx₅, Nat.le_of_lt (Nat.lt_of_lt_of_le hlt dn), dne, hn₅⟩)
end
end SL
set_option maxHeartbeats 4000000
namespace SL
open PySem PySem.Spec PyProof.Rows L2
/-- what an error's __init__ does -/
def spIni (K : PySem.W.Frag) (D fI : Addr) : Sp := fun vs H Q _ => ∃ (a C : Addr) (v : V), vs = [.ref a, v] ∧ ErrC K D fI C ∧ H a = some (exo a C none) ∧
  ∀ dx, H dx = none → dx ≠ a → Q .non (upd (upd H dx (exd dx [("value", v)])) a (exo a C (some dx)))
theorem ok_ini {P : Program} {w : World} {K : PySem.W.Frag} {mg : Str → Option Value} {base : Heap} {D fI : Addr} {fd : FuncData} (I0 : IniT P K D fI fd) (hsu : mg "super" = none) :
    FnOk P w K mg base CX0 1 fI fd ["self", "value"] (spIni K D fI) := by
  refine ⟨fun vs H Q E h => ?_, fun A outer s H args us vs Q E hr e0 hb r hsp => ?_⟩
  · obtain ⟨a, C, v, rfl, _⟩ := h
    rfl
  · obtain ⟨a, C, v, rfl, T, ha, hq⟩ := hsp
    obtain ⟨u1, u, rfl, r1, ru⟩ := vals2 r
    cases r1
    obtain ⟨t0, hx⟩ := exo_at e0.hok ha
    have bk : ∀ b o, base.get? b = some o → s.heap.get? b = some o := fun b o e => (e0.bs b o e).1
    obtain ⟨mb, hb1, hb2⟩ := e0.mod.blt
    have hnx : K.lookup a = none := by
      cases e : K.lookup a with
      | none => rfl
      | some o =>
        have z := (e0.bs a o (e0.mod.kin a o e)).2
        rw [ha] at z
        cases z
    have hd := hr.depth
    refine er_init I0 T (e0.mod.kin.keeps bk) (e0.mod.glob.keeps bk) (hb1.keeps bk) hsu ((hb2 _ (by decide)).trans boot_super) (e0.mod.nolimit.keeps bk) hx hnx hd hb ?_
    intro h' tk dx t1 fin
    obtain ⟨hh, g, dd, tt, os⟩ := s
    have hnd : H dx = none := e0.hok.fresh fin.dbig
    have na : ∀ {b : Addr}, H b = none → b ≠ a := fun {b} n z => by
      rw [z, ha] at n
      cases n
    have nd : ∀ {b : Addr} {o : Obj}, hh.get? b = some o → b ≠ dx := fun {b o} q => Nat.ne_of_lt (Nat.lt_of_lt_of_le (Heap.lt_size q) fin.dbig)
    refine ⟨.non, _, rfl, e0.bare, ?_, ?_, rfl, hq dx hnd fin.dne⟩
    · refine ⟨fun b o q n _ _ => fin.keep b o (na n) q, fun b o q n _ _ => ⟨o.slots, fin.keep b o (na n) q⟩, fun b o q n _ => ?_, fun b o q _ => ?_, fun b xs q => ?_, fun b o v q => ?_, fun b ps q => ⟨#[], ?_⟩⟩
      · rw [upd_ne (na n), upd_ne (nd q)]
        exact n
      · by_cases hba : b = a
        · exact ⟨_, by rw [hba]; exact fin.obj⟩
        · exact ⟨o, fin.keep b o hba q⟩
      · rw [upd_ne (at_ne ha q exo_tup), upd_ne (ne_of_none q hnd)]
        exact q
      · rw [upd_ne (at_ne ha q exo_frz), upd_ne (ne_of_none q hnd)]
        exact q
      · rw [upd_ne (at_ne ha q exo_tbl), upd_ne (ne_of_none q hnd), q]
        simp
    · intro b o q
      by_cases hba : b = a
      · subst hba
        rw [upd_same] at q
        cases q
        exact exo_ok fin.obj
      · rw [upd_ne hba] at q
        by_cases hbd : b = dx
        · subst hbd
          rw [upd_same] at q
          cases q
          exact exd_ok fin.ns (relO_put (fs := []) ru fun g => True.intro)
        · rw [upd_ne hbd] at q
          refine (e0.hok b o q).stay (fun c v hc z => fin.keep c v ?_ z) (fun c hc => ?_) (fun c xs hc => ?_)
          · rcases hc with hc | hc
            · rw [hc]
              exact hba
            · exact at_ne ha hc exo_own
          · rw [upd_ne (at_ne ha hc exo_own), upd_ne (ne_of_none hc hnd)]
            exact hc
          · rw [upd_ne (at_ne ha hc exo_tup), upd_ne (ne_of_none hc hnd)]
            exact hc
/-- what the written part says of an error's class, for HandS.ExcInit -/
theorem ErrC.oex {K : PySem.W.Frag} {D fI C : Addr} (T : ErrC K D fI C) : OexC K C := ⟨T.cls, T.sa, T.exC, T.tyC, T.kC⟩
/-- C(e) as a value -/
def tErr (C : Addr) (te : TE) : TE := fun σ H Q => te σ H fun v H1 => ∀ a d, H1 a = none → H1 d = none → d ≠ a → Q (.ref a) (upd (upd H1 d (exd d [("value", v)])) a (exo a C (some d)))
section
variable {X : Cx} {D fI C : Addr} {fd : FuncData} {x : Str} {p pos : Pos} {e : Expr} {te : TE}
theorem pe_err (I0 : IniT X.prog X.K D fI fd) (hsu : X.mg "super" = none) (T : ErrC X.K D fI C) (b : Binds X.K fd ["self", "value"] []) {k : Nat} (hr : Room k X.A) (hk2 : 2 ≤ k) (hg : Gl X x) (hm : X.mg x = some (.ref C)) (he : PE X e te)
    (hdb : (x == ("__debug__" : Str)) = false := by decide) (hs : starEach [e] X.env = (false, eval e X.env) :: starEach [] X.env := by rfl) :
    PE X (.Call (.Name x p) [e] [] pos) (tErr C te) := by
  refine ⟨fun pins s σ H Q I h => ?_⟩
  have F1 : FnOk X.prog X.w X.K X.mg X.base CX0 1 fI fd ["self", "value"] (spIni X.K D fI) := ok_ini I0 hsu
  obtain ⟨nm, q, N, bs, bm, sn, sub, ab, col, dd, k0, k1, k2, k3, k5, hC, hbm⟩ := T.cls
  refine wpAny_Call_Name_kw (ld_glob I hg hm ?_ hdb)
  refine PySem.W.callWith_K (h₀ := X.base) I.ok.mod.kin T.kC ?_ hs (by rfl)
  rw [hs]
  show wpAny _ _ (spliced ((false, eval e X.env) :: backTo pos (starEach [] X.env))) _ _ s
  refine Calls.spliced_cons (thn (he.run pins s σ H _ I h) fun u s1 ⟨v, H1, I1, r1, q1⟩ => ?_)
  refine Calls.spliced_nil ⟨I1.kIn, ?_⟩
  show wpAny _ _ (call (.ref C) [u]) _ _ _
  obtain ⟨hp, g, dr, tk, os⟩ := s1
  let A0 : Addr := hp.objs.size + 1
  have hsz : hp.objs.size ≤ A0 := Nat.le_succ _
  have hn : H1 A0 = none := I1.hok.fresh hsz
  have kk : ∀ b o, hp.get? b = some o → ((hp.push (PySem.W.kdv_tup [u])).push (PySem.HandSPX.excO C hp.objs.size)).get? b = some o := fun b o e => Heap.get?_push_of_some _ (Heap.get?_push_of_some _ e)
  have hget : ((hp.push (PySem.W.kdv_tup [u])).push (PySem.HandSPX.excO C hp.objs.size)).get? A0 = some (PySem.HandSPX.excO C hp.objs.size) := by
    show Heap.get? _ (hp.objs.size + 1) = _
    heap_get
  have I2 : Inv X pins σ (upd H1 A0 (exo A0 C none)) ⟨(hp.push (PySem.W.kdv_tup [u])).push (PySem.HandSPX.excO C hp.objs.size), g, dr, tk, os⟩ :=
    I1.laid (t' := tk) (a := A0) (o := exo A0 C none) kk hsz (exo_ok hget)
  have hsp : spIni X.K D fI [.ref A0, v] (upd H1 A0 (exo A0 C none)) (fun v' H2 => v' = .non ∧ Q (.ref A0) H2) (fun _ _ _ => False) := by
    refine ⟨A0, C, v, rfl, T, upd_same, fun dx hd hne => ⟨rfl, ?_⟩⟩
    have hd1 : H1 dx = none := by rw [upd_ne hne] at hd; exact hd
    have z := q1 A0 dx hn hd1 hne
    have e1 : upd (upd (upd H1 A0 (exo A0 C none)) dx (exd dx [("value", v)])) A0 (exo A0 C (some dx)) = upd (upd H1 dx (exd dx [("value", v)])) A0 (exo A0 C (some dx)) := by
      funext b
      by_cases hb : b = A0
      · rw [hb, upd_same, upd_same]
      · rw [upd_ne hb, upd_ne hb]
        by_cases hb2 : b = dx
        · rw [hb2, upd_same, upd_same]
        · rw [upd_ne hb2, upd_ne hb2, upd_ne hb]
    rw [e1]
    exact z
  have hr2 : Room 2 X.A := hr.mono hk2
  refine wpAny_call (PySem.HandSPX.call_own F.excBase_ValueError (fun Y => PySem.HandSPX.refsVE_contains Y bm hbm) (I1.kIn _ _ hC) (PySem.W.looks_findIn I1.kIn T.iC) (fun self => PySem.W.bind_fn I1.kIn self T.tI) (by rw [sizeLine_eq]; exact (by decide : 1 ≤ 16777216))
    (codeAny_mono (F1.run _ X.stack _ _ ⟨[Value.ref A0, u], []⟩ [Value.ref A0, u] [V.ref A0, v] _ (fun _ _ _ => False) (hr2.make C [u] []) (I2.env0.make C [u] []) (b _ [Value.ref A0, u] I2.kIn rfl) (.cons rfl (.cons r1 .nil)) hsp) fun r s' hq' => ?_))
  cases r with
  | error er => exact hq'.elim
  | ok fl => cases fl with
    | ret u' =>
      obtain ⟨v', H2, os2, bare2, un2, hok2, rv, ev, qq⟩ := hq'
      subst ev
      obtain ⟨h2, g2, d2, t2, os'⟩ := s'
      refine ⟨rv, .ref A0, H2, ?_, rfl, qq⟩
      exact I2.call' (ch := []) os2 un2 hok2 bare2 (fun b z => absurd z (by simp))
    | next => exact hq'.elim
    | brk => exact hq'.elim
    | cont => exact hq'.elim
end
end SL
set_option maxHeartbeats 4000000
namespace SL
open PySem PySem.Spec PySem.HandSPX
section
variable {M : Model} {A : Around} {E : Value → Shared → Prop} {h : Heap} {g : Array GenState} {d : Drawn} {t : Nat} {os : OsState}
variable {nm q : Str} {C N : Addr} {bs bm : List Value} {hdct : Bool} {sn : List Str} {sub : List Value} {ab : Bool} {col : Option Bool} {dd : Option Addr} {k0 k1 k2 k3 k5 : Option Value}
abbrev ecO (nm q : Str) (C N : Addr) (bs bm : List Value) (hdct : Bool) (sn : List Str) (sub : List Value) (ab : Bool) (col : Option Bool) (dd : Option Addr) (k0 k1 k2 k3 k5 : Option Value) : Obj :=
  excClassObj nm q C N bs bm hdct sn sub ab col dd k0 k1 k2 k3 k5 "ValueError.__new__"
theorem chk_new_kw (hbm : refsVE bm = true) {kw : List (Str × Value)} {Q : Unit → Shared → Prop}
    (hC : h.get? C = some (ecO nm q C N bs bm hdct sn sub ab col dd k0 k1 k2 k3 k5)) (hq : Q () ⟨h, g, d, t, os⟩) :
    wpAny M A (checkBuiltinCall "ValueError.__new__" ⟨[.ref C], kw⟩) Q E ⟨h, g, d, t, os⟩ := by
  have F := F.excBase_ValueError
  have hT := fun Y : String => refsVE_contains Y bm hbm
  have hcont : (Value.ref C :: bm).contains (.type "ValueError") = true := by
    rw [List.contains_cons, hT, F.hasB, Bool.or_true]
  have hstar := F.noStar
  simp only [checkBuiltinCall, F.newKind, F.newSplit, F.newRow]
  repeat (first
    | refine wpAny_loadPart_at hC ?_
    | (refine wpAny_isSubtype_exc hC ?_; rw [hcont])
    | refine wpAny_staticBase_exc hC ?_
    | refine wpAny_madeBy_exc hC ?_
    | simp only [bne_self_eq_false, Bool.false_eq_true, if_false]
    | wp_step)
  all_goals exact hq
end
section
variable {prog : Program} {w : World} {A : Around} {E : Value → Shared → Prop} {R : Result → Shared → Prop} {h : Heap} {g : Array GenState} {d : Drawn} {t : Nat} {os : OsState}
variable {nm q : Str} {C N : Addr} {bs bm : List Value} {hdct : Bool} {sn : List Str} {sub : List Value} {ab : Bool} {col : Option Bool} {dd : Option Addr} {k0 k1 k2 k3 k5 : Option Value}
/-- the heap behind BaseException.__new__ without arguments -/
abbrev nuH (h : Heap) (C : Addr) : Heap := (h.push (W.kdv_tup [])).push (excO C h.objs.size)
theorem new_kw (hbm : refsVE bm = true) {kw : List (Str × Value)} (hC : h.get? C = some (ecO nm q C N bs bm hdct sn sub ab col dd k0 k1 k2 k3 k5))
    (hq : R (.ok (.ret (.ref (h.objs.size + 1)))) ⟨nuH h C, g, d, t, os⟩) :
    codeAny (model prog w) A (.builtin "ValueError.__new__" ⟨[.ref C], kw⟩) R ⟨h, g, d, t, os⟩ := by
  have F := F.excBase_ValueError
  have hT := fun Y : String => refsVE_contains Y bm hbm
  have hends := F.ends
  have hcB : (Value.ref C :: bm).contains (.type "ValueError") = true := by
    rw [List.contains_cons, hT, F.hasB, Bool.or_true]
  have hcA : (Value.ref C :: bm).contains (.type "AttributeError") = false := by
    rw [List.contains_cons, hT, F.noAttr]
    rfl
  have hcN : (Value.ref C :: bm).contains (.type "NameError") = false := by
    rw [List.contains_cons, hT, F.noName]
    rfl
  refine codeAny_builtinAt F.entry ?_
  unfold Builtin.«BaseException.__new__»
  refine wpAt_bind ?_
  show wpAt _ _ _ (stack >>= _) _ _ _
  refine wpAt_bind (wpAt_stack fun p below => wpAt_of_wpAny ?_)
  wp_walk
  refine wpAt_of_wpAny ?_
  rw [F.owner]
  repeat (first
    | with_reducible refine wpAny_madeHere_exc F.canon hC ?_
    | with_reducible refine wpAny_loadPart_at hC ?_
    | (with_reducible refine wpAny_isSubtype_exc hC ?_; first | rw [hcB] | rw [hcA] | rw [hcN])
    | wp_step)
  show R _ _
  rw [Heap.size_push]
  exact hq
theorem type_kw (hbm : refsVE bm = true) {kw : List (Str × Value)} {fI : Addr} {Q : Fin → Shared → Prop} (hC : h.get? C = some (ecO nm q C N bs bm hdct sn sub ab col dd k0 k1 k2 k3 k5))
    (hi : W.Looks (model prog w) h (typeLookup (.ref C) "__init__") (some (.ref fI))) (hb : ∀ self, W.Looks (model prog w) h (bindSpecial (.ref fI) self) (.ref fI, [self]))
    (hq : codeAny (model prog w) A (.call (.ref fI) ⟨[.ref (h.objs.size + 1)], kw⟩)
      (fun r s' => match r with | .ok (.ret v) => v = .none ∧ Q (.done (.ret (.ref (h.objs.size + 1)))) s' | .ok _ => False | .error e => E e s') ⟨nuH h C, g, d, t, os⟩) :
    wpAny (model prog w) A (Builtin.«type.__call__» ⟨[.ref C], kw⟩) Q E ⟨h, g, d, t, os⟩ := by
  have F := F.excBase_ValueError
  repeat (first
    | with_reducible refine wpAny_loadPart_at hC ?_
    | with_reducible refine wpAny_madeBy_exc hC ?_
    | wp_step)
  refine codeAny_call_builtin_code (Code.quiet_builtin _ F.quiet) (chk_new_kw hbm hC ?_)
  refine new_kw hbm hC ?_
  show wpAny _ _ _ _ _ _
  have k : ∀ b o, h.get? b = some o → (nuH h C).get? b = some o := fun b o e => Heap.get?_push_of_some _ (Heap.get?_push_of_some _ e)
  have hC₁ := k _ _ hC
  have hget : (nuH h C).get? (h.objs.size + 1) = some (excO C h.objs.size) := by
    show Heap.get? ((h.push (W.kdv_tup [])).push (excO C h.objs.size)) (h.objs.size + 1) = _
    heap_get
  have hcC : (Value.ref C :: bm).contains (.ref C) = true := by simp
  have i1 := hi.keeps k
  have b1 := (hb (.ref (h.objs.size + 1))).keeps k
  unfold isInstance
  repeat (first
    | with_reducible refine wpAny_loadPart_at hget ?_
    | (with_reducible refine wpAny_isSubtype_exc hC₁ ?_; rw [hcC])
    | wp_step)
  show wpAny _ _ (typeLookup (.ref C) _) _ _ _
  refine i1.at ?_
  refine wpAny_holding (wpAny_bind (b1.at ?_))
  refine wpAny_bind (wpAny_call (codeAny_mono hq fun r s' z => ?_))
  rcases r with e | (v | _ | _ | _) <;> first | exact z | exact z.elim | skip
  obtain ⟨rfl, z⟩ := z
  first
    | exact wpAny_pure (wpAny_pure z)
    | (wp_walk; exact z)
theorem call_kw (hbm : refsVE bm = true) {kw : List (Str × Value)} {fI : Addr} (hC : h.get? C = some (ecO nm q C N bs bm hdct sn sub ab col dd k0 k1 k2 k3 k5))
    (hi : W.Looks (model prog w) h (typeLookup (.ref C) "__init__") (some (.ref fI))) (hb : ∀ self, W.Looks (model prog w) h (bindSpecial (.ref fI) self) (.ref fI, [self]))
    (hq : codeAny (model prog w) (A.under (.builtin "type.__call__" ⟨[.ref C], kw⟩)) (.call (.ref fI) ⟨[.ref (h.objs.size + 1)], kw⟩) (W.InitBack (h.objs.size + 1) R) ⟨nuH h C, g, d, t, os⟩) :
    codeAny (model prog w) A (.call (.ref C) ⟨[], kw⟩) R ⟨h, g, d, t, os⟩ := by
  have F := F.excBase_ValueError
  have f1 := tc_lookup
  have f2 := tc_bind (.ref C)
  have hTy : (⟨h, g, d, t, os⟩ : Shared).TypeIs (.ref C) "type" := ⟨_, hC, rfl⟩
  refine codeAny_of_tree ?_
  show wpAny _ _ (callAny (.ref C) _) _ _ _
  repeat (any_goals (first
    | assumption
    | with_reducible refine wpAny_loadPart_at hC ?_
    | wp_step))
  refine ⟨rfl, ?_⟩
  refine codeAny_call_builtin_at (Code.quiet_builtin _ (by decide +kernel)) entry_typeCall (wpAny_check_type_call_sub hC (type_kw hbm hC hi hb ?_))
  refine codeAny_mono hq fun r s' z => ?_
  rcases r with e | (v | _ | _ | _) <;> exact z
end
end SL
set_option maxHeartbeats 4000000
namespace SL
open PySem PySem.Spec PyProof.Rows L2
/-- an error of the class C with the value v stands at a -/
def ErrAt (H : Hp) (a C : Addr) (v : V) : Prop := ∃ d, H a = some (exo a C (some d)) ∧ H d = some (exd d [("value", v)])
theorem ErrAt.same {H H' : Hp} (e : Same H H') {a C : Addr} {v : V} (h : ErrAt H a C v) : ErrAt H' a C v := by
  obtain ⟨d, h1, h2⟩ := h
  exact ⟨d, e _ _ h1, e _ _ h2⟩
theorem IniT.binds {P : Program} {K : PySem.W.Frag} {D fI : Addr} {fd : FuncData} (I0 : IniT P K D fI fd) (hd : fd.defaults = .none) : Binds K fd ["self", "value"] [] := by
  obtain ⟨oc, od, dV, kV, doc, pm, an, cda, ct, osl, cc, q1, q2, p0, p1, p2, p3, p4, p5, p6, p7, p8, p9, efd, _⟩ := I0.fn
  subst efd
  have e : dV = .none := hd
  subst e
  refine Binds.all fun us hl => ?_
  match us, hl with
  | [_, _], _ => rfl
theorem IniT.bindsK {P : Program} {K : PySem.W.Frag} {D fI : Addr} {fd : FuncData} (I0 : IniT P K D fI fd) (hd : fd.defaults = .none) (s : Shared) (a u : Value) :
    BindsTo s fd ⟨[a], [("value", u)]⟩ [("self", a), ("value", u)] := by
  obtain ⟨oc, od, dV, kV, doc, pm, an, cda, ct, osl, cc, q1, q2, p0, p1, p2, p3, p4, p5, p6, p7, p8, p9, efd, _⟩ := I0.fn
  subst efd
  have e : dV = .none := hd
  subst e
  exact .of_eq (by rfl)
section
variable {X : Cx} {D fI C : Addr} {fd : FuncData} {x : Str} {p pos kpos : Pos} {e : Expr} {te : TE}
/-- C(value=e) as a value -/
theorem pe_errK (I0 : IniT X.prog X.K D fI fd) (hdf : fd.defaults = .none) (hsu : X.mg "super" = none) (T : ErrC X.K D fI C) {k : Nat} (hr : Room k X.A) (hk2 : 2 ≤ k) (hg : Gl X x) (hm : X.mg x = some (.ref C)) (he : PE X e te)
    (hdb : (x == ("__debug__" : Str)) = false := by decide) :
    PE X (.Call (.Name x p) [] [⟨some "value", e, kpos⟩] pos) (tErr C te) := by
  refine ⟨fun pins s σ H Q I h => ?_⟩
  have F1 : FnOk X.prog X.w X.K X.mg X.base CX0 1 fI fd ["self", "value"] (spIni X.K D fI) := ok_ini I0 hsu
  obtain ⟨nm, q, N, bs, bm, sn, sub, ab, col, dd, k0, k1, k2, k3, k5, hC, hbm⟩ := T.cls
  refine wpAny_Call_Name_kw (ld_glob I hg hm ?_ hdb)
  refine PySem.W.callWith_KW0 (h₀ := X.base) I.ok.mod.kin T.kC rfl ?_ rfl
  show wpAny _ _ (evalAll [(do let v ← eval e X.env; standAt pos; pure v)]) _ _ s
  refine wpAny_evalAll_cons (wpAny_bind (thn (he.run pins s σ H _ I h) fun u s1 ⟨v, H1, I1, ru, q1⟩ => ?_))
  refine wpAny_bind (wpAny_standAt (wpAny_pure (wpAny_evalAll_nil ⟨I1.kIn, ?_⟩)))
  show wpAny _ _ (call (.ref C) [] [("value", u)]) _ _ _
  obtain ⟨hp, g, dr, tk, os⟩ := s1
  let A0 : Addr := hp.objs.size + 1
  have hsz : hp.objs.size ≤ A0 := Nat.le_succ _
  have hn : H1 A0 = none := I1.hok.fresh hsz
  have kk : ∀ b o, hp.get? b = some o → (nuH hp C).get? b = some o := fun b o e => Heap.get?_push_of_some _ (Heap.get?_push_of_some _ e)
  have hget : (nuH hp C).get? A0 = some (PySem.HandSPX.excO C hp.objs.size) := by
    show Heap.get? ((hp.push (PySem.W.kdv_tup [])).push (PySem.HandSPX.excO C hp.objs.size)) (hp.objs.size + 1) = _
    heap_get
  have I2 : Inv X pins σ (upd H1 A0 (exo A0 C none)) ⟨nuH hp C, g, dr, tk, os⟩ := I1.laid (t' := tk) (a := A0) (o := exo A0 C none) kk hsz (exo_ok hget)
  have hsp : spIni X.K D fI [.ref A0, v] (upd H1 A0 (exo A0 C none)) (fun v' H2 => v' = .non ∧ Q (.ref A0) H2) (fun _ _ _ => False) := by
    refine ⟨A0, C, v, rfl, T, upd_same, fun dx hd hne => ⟨rfl, ?_⟩⟩
    have hd1 : H1 dx = none := by rw [upd_ne hne] at hd; exact hd
    have z := q1 A0 dx hn hd1 hne
    have e1 : upd (upd (upd H1 A0 (exo A0 C none)) dx (exd dx [("value", v)])) A0 (exo A0 C (some dx)) = upd (upd H1 dx (exd dx [("value", v)])) A0 (exo A0 C (some dx)) := by
      funext b
      by_cases hb : b = A0
      · rw [hb, upd_same, upd_same]
      · rw [upd_ne hb, upd_ne hb]
        by_cases hb2 : b = dx
        · rw [hb2, upd_same, upd_same]
        · rw [upd_ne hb2, upd_ne hb2, upd_ne hb]
    rw [e1]
    exact z
  have hr2 : Room 2 X.A := hr.mono hk2
  refine wpAny_call (call_kw hbm (I1.kIn _ _ hC) (PySem.W.looks_findIn I1.kIn T.iC) (fun self => PySem.W.bind_fn I1.kIn self T.tI)
    (codeAny_mono (F1.run _ X.stack _ _ ⟨[Value.ref A0], [("value", u)]⟩ [Value.ref A0, u] [V.ref A0, v] _ (fun _ _ _ => False) (hr2.make C [] [("value", u)]) (I2.env0.make C [] [("value", u)]) (I0.bindsK hdf _ _ _) (.cons rfl (.cons ru .nil)) hsp) fun r s' hq' => ?_))
  cases r with
  | error er => exact hq'.elim
  | ok fl => cases fl with
    | ret u' =>
      obtain ⟨v', H2, os2, bare2, un2, hok2, rv, ev, qq⟩ := hq'
      subst ev
      obtain ⟨h2, g2, d2, t2, os'⟩ := s'
      refine ⟨rv, .ref A0, H2, ?_, rfl, qq⟩
      exact I2.call' (ch := []) os2 un2 hok2 bare2 (fun b z => absurd z (by simp))
    | next => exact hq'.elim
    | brk => exact hq'.elim
    | cont => exact hq'.elim
/-- error.value -/
def tErrV (K : PySem.W.Frag) (D fI : Addr) (te : TE) : TE := fun σ H Q => te σ H fun x H1 => ∃ (a C : Addr) (v : V), x = .ref a ∧ ErrC K D fI C ∧ ErrAt H1 a C v ∧ Q v H1
theorem pe_errV (he : PE X e te) (hb : attributeBase e "value" X.env (eval e X.env) = eval e X.env := by rfl) : PE X (.Attribute e "value" pos) (tErrV X.K D fI te) := by
  refine ⟨fun pins s σ H Q I h => ?_⟩
  refine attr_of hb (thn (he.run pins s σ H _ I h) fun u s1 ⟨y, H1, I1, rx, a, C, v, ex, T, ⟨d, ha, hd⟩, q⟩ => ?_)
  subst ex
  obtain rfl : u = Value.ref a := rx
  obtain ⟨t1, ho⟩ := exo_at I1.hok ha
  obtain ⟨mA, hns, hr⟩ := exd_at I1.hok hd
  obtain ⟨od, hod, hl⟩ := lookIn_ns hns
  have lv : List.lookup ("value" : Str) [(("value" : Str), v)] = some v := by simp [List.lookup]
  have rr := hr "value"
  rw [lv] at rr
  obtain ⟨u, hu, ru⟩ := RelO.some_of (v := v) (o := mA "value") rr
  have J : PySem.W.InstAt s1.heap a { cls := .ref C, dict := some d, data := .fields #[.ref t1, .none, .none, .none, .bool false, .none] } C (some od) := ⟨ho, rfl, rfl, hod⟩
  exact HandSPX.exc_get I1.kIn J T.ga T.gg T.exC (PySem.W.findObj_own T.hdC T.noV rfl (by rw [hl, hu])) (handed_of ru) ⟨v, H1, I1.tok _, ru, q⟩
/-- isinstance(error, c) -/
def rIsErr (K : PySem.W.Frag) (D fI : Addr) : List V → Hp → VK → Prop := fun xs H Q => ∃ (a C : Addr) (c : V) (cu : Value) (v : V) (b : Bool), xs = [.ref a, c] ∧ ErrC K D fI C ∧ ErrAt H a C v ∧ ClsV c cu ∧ PySem.W.kitOne K (.ref C) cu = some b ∧ Q (.bl b) H
theorem call_isErr : CallR X (.builtin "isinstance") (rIsErr X.K D fI) := by
  intro pins s σ H xs us Q I r h
  obtain ⟨a, C, c, cu, v, b, rfl, T, ⟨d, ha, hd⟩, k, e, q⟩ := h
  obtain ⟨u1, u2, rfl, r1, r2⟩ := vals2 r
  cases r1
  have e2 := k.eq r2
  subst e2
  obtain ⟨t1, ho⟩ := exo_at I.hok ha
  obtain ⟨mA, hns, hr⟩ := exd_at I.hok hd
  obtain ⟨od, hod, hl⟩ := lookIn_ns hns
  have J : PySem.W.InstAt s.heap a { cls := .ref C, dict := some d, data := .fields #[.ref t1, .none, .none, .none, .bool false, .none] } C (some od) := ⟨ho, rfl, rfl, hod⟩
  have hcl : (PySem.W.clsIn X.K C).isSome = true := by
    obtain ⟨cd, hc, _⟩ := PySem.W.any_some T.hdC
    rw [hc]
    rfl
  exact PySem.W.kia_one (PySem.W.kitx_exc hcl T.ga T.gg T.exC T.cl T.sp T.tk T.ob) I.kIn J e (fun z => nomatch z) fun tk => ⟨.bl b, H, I.tok tk, rfl, q⟩
end
end SL
set_option maxHeartbeats 4000000
/-! draws: what a pot holds -/
namespace SL
open PySem PySem.Spec PyProof.Rows L2
/-- ** of great ints -/
def CPowW (i j : Int) : Prop := 0 ≤ j ∧ (Builtin.Int.intBits i : Int) * j ≤ 2 ^ 27
theorem op_powW {X : Cx} : OpR X (binaryOp .Pow) (rI CPowW fun i j => .int (i ^ j.toNat)) := opI fun _ _ _ _ _ _ _ hc q => pow_int hc.1 hc.2 q
theorem bits_le {i : Int} {n : Nat} (h : i.natAbs < 2 ^ n) : Builtin.Int.intBits i ≤ n + 1 := by
  unfold Builtin.Int.intBits
  split
  · omega
  · rename_i h0
    have h1 : i.natAbs ≠ 0 := fun e => h0 (by have : i = 0 := by omega
                                              rw [this]; rfl)
    have := (Nat.log2_lt h1).mpr h
    omega
/-- a pot with room for f draws -/
def PotL (f : Nat) (l : List V) : Prop := ∃ o m c : Int, l = [.int o, .int m, .int c] ∧ 0 ≤ o ∧ o < 10 ^ 300 ∧ 0 ≤ m ∧ m < 2 ^ 61 ∧ 0 ≤ c ∧ c + f ≤ 1000000
theorem PotL.mono {f g : Nat} {l : List V} (h : PotL f l) (hg : g ≤ f) : PotL g l := by
  obtain ⟨o, m, c, e, h1, h2, h3, h4, h5, h6⟩ := h
  exact ⟨o, m, c, e, h1, h2, h3, h4, h5, by omega⟩
/-- all but p stays -/
def Kp (p : Addr) (H H' : Hp) : Prop := ∀ b o, b ≠ p → H b = some o → H' b = some o
theorem Kp.refl (p : Addr) (H : Hp) : Kp p H H := fun _ _ _ h => h
theorem Kp.trans {p : Addr} {H H1 H2 : Hp} (a : Kp p H H1) (b : Kp p H1 H2) : Kp p H H2 := fun c o hc h => b c o hc (a c o hc h)
theorem Kp.of {p : Addr} {H H1 : Hp} (a : Same H H1) : Kp p H H1 := fun c o _ h => a c o h
theorem Kp.upd {p : Addr} {H : Hp} {o : HO} : Kp p H (upd H p o) := fun c u hc h => by rw [upd_ne hc]; exact h
theorem Kp.new {p q : Addr} {H H1 : Hp} {o : HO} (a : Kp p H H1) (hq : H1 q = none) : Kp p H (L2.upd H1 q o) := fun c u hc h => by
  have z := a c u hc h
  rw [upd_ne (ne_of_none z hq)]
  exact z
theorem Kp.seq {K : PySem.W.Frag} {p a : Addr} {H H' : Hp} {xs : List V} (e : Kp p H H') (hap : a ≠ p) (h : SqL K H a xs) : SqL K H' a xs := by
  rcases h with (h | ⟨o, h⟩) | h
  · exact .inl (.inl (e _ _ hap h))
  · exact .inl (.inr ⟨o, e _ _ hap h⟩)
  · exact .inr h
theorem Kp.free {p b : Addr} {H H' : Hp} (e : Kp p H H') (hb : b ≠ p) (h : H' b = none) : H b = none := by
  cases q : H b with
  | none => rfl
  | some o =>
    rw [e b o hb q] at h
    cases h
theorem Kp.same {p : Addr} {H H' : Hp} (e : Kp p H H') : Same (delH H p) (delH H' p) := fun b o h => by
  by_cases hb : b = p
  · rw [hb, delH_same] at h
    cases h
  · rw [delH_ne hb] at h ⊢
    exact e b o hb h
theorem delH_le {p : Addr} {H : Hp} : Same (delH H p) H := fun b o h => by
  by_cases hb : b = p
  · rw [hb, delH_same] at h
    cases h
  · rw [delH_ne hb] at h
    exact h
theorem same_new {q : Addr} {H : Hp} {o : HO} (hq : H q = none) : Same H (upd H q o) := fun c u h => by
  rw [upd_ne (ne_of_none h hq)]
  exact h
/-- the heap outside of what H0 tracks -/
def Hx (H0 H : Hp) : Hp := fun b => if (H0 b).isSome = true then none else H b
theorem Hx_none {H0 H : Hp} {b : Addr} (h : H0 b = none) : Hx H0 H b = H b := by
  unfold Hx
  rw [h, if_neg (by simp)]
theorem Hx_some {H0 H : Hp} {b : Addr} {o : HO} (h : Hx H0 H b = some o) : H0 b = none ∧ H b = some o := by
  unfold Hx at h
  cases q : H0 b with
  | none =>
    rw [q, if_neg (by simp)] at h
    exact ⟨rfl, h⟩
  | some u =>
    rw [q, if_pos (by simp)] at h
    cases h
theorem Hx_same {H0 H H' : Hp} (e : ∀ b o, H0 b = none → H b = some o → H' b = some o) : Same (Hx H0 H) (Hx H0 H') := fun b o h => by
  obtain ⟨h1, h2⟩ := Hx_some h
  rw [Hx_none h1]
  exact e b o h1 h2
theorem Hx_sub {H0 H1 H : Hp} (e : ∀ b, H1 b = none → H0 b = none) : Same (Hx H1 H) (Hx H0 H) := fun b o h => by
  obtain ⟨h1, h2⟩ := Hx_some h
  rw [Hx_none (e b h1)]
  exact h2
theorem Hx_le {H0 H : Hp} : Same (Hx H0 H) H := fun b o h => (Hx_some h).2
/-- what is tracked stays tracked -/
def Dm (H H' : Hp) : Prop := ∀ b, H' b = none → H b = none
theorem Dm.refl (H : Hp) : Dm H H := fun _ h => h
theorem Dm.trans {H H1 H2 : Hp} (a : Dm H H1) (b : Dm H1 H2) : Dm H H2 := fun c h => a c (b c h)
theorem Kp.dm {p : Addr} {H H' : Hp} (e : Kp p H H') {o : HO} (hp : H' p = some o) : Dm H H' := fun b h => by
  by_cases hb : b = p
  · rw [hb, hp] at h
    cases h
  · exact e.free hb h
theorem Same.dm {H H' : Hp} (e : Same H H') : Dm H H' := fun b h => e.free h
theorem Dm.upd {H : Hp} {a : Addr} {o : HO} : Dm H (L2.upd H a o) := fun b h => by
  by_cases hb : b = a
  · rw [hb, upd_same] at h
    cases h
  · rw [upd_ne hb] at h
    exact h
/-- _law_take(pot, upto) -/
def spTake : Sp := fun vs H Q _ => ∃ (p : Addr) (n : Int) (f : Nat) (l : List V), vs = [.ref p, .int n] ∧ H p = some (.lst l) ∧ PotL (f + 1) l ∧ 0 < n ∧ n ≤ 10 ^ 18 ∧
  ∀ (r : Int) (l' : List V) (H' : Hp), 0 ≤ r → r < n → PotL f l' → H' p = some (.lst l') → Kp p H H' → Q (.int r) H'
/-- _law_of(pot, some) -/
def spOf : Sp := fun vs H Q _ => ∃ (p a : Addr) (f : Nat) (l xs : List V), vs = [.ref p, .ref a] ∧ H p = some (.lst l) ∧ PotL (f + 1) l ∧ H a = some (.lst xs) ∧ a ≠ p ∧ 0 < xs.length ∧ xs.length ≤ 1000000 ∧
  ∀ (x : V) (l' : List V) (H' : Hp), x ∈ xs → PotL f l' → H' p = some (.lst l') → Kp p H H' → Q x H'
/-- _law_pot(script, k) -/
def spPot (K : PySem.W.Frag) : Sp := fun vs H Q _ => ∃ (a : Addr) (ns : List Int) (k : Int), vs = [.ref a, .int k] ∧ SqL K H a (ns.map V.int) ∧ 0 ≤ k ∧ k ≤ 1000 ∧ ns.length ≤ 63 ∧
  ∀ (p : Addr) (l : List V) (H' : Hp), H p = none → PotL 1000000 l → H' p = some (.lst l) → Same H H' → Q (.ref p) H'
/-- the first part of a pot -/
theorem own_ok (z : Int) : 0 ≤ (if z < 0 then -z else z) % ((10 : Int) ^ (60 : Int).toNat) ^ (5 : Int).toNat * (if decide ((10 : Int) ^ (18 : Int).toNat ≤ if z < 0 then -z else z) = true then 1 else 0) ∧
    (if z < 0 then -z else z) % ((10 : Int) ^ (60 : Int).toNat) ^ (5 : Int).toNat * (if decide ((10 : Int) ^ (18 : Int).toNat ≤ if z < 0 then -z else z) = true then 1 else 0) < 10 ^ 300 := by
  have hM : (0 : Int) < ((10 : Int) ^ (60 : Int).toNat) ^ (5 : Int).toNat := by decide +kernel
  have hM2 : ((10 : Int) ^ (60 : Int).toNat) ^ (5 : Int).toNat = 10 ^ 300 := by decide +kernel
  have a0 := Int.emod_nonneg (if z < 0 then -z else z) (Int.ne_of_gt hM)
  have a1 := Int.emod_lt_of_pos (if z < 0 then -z else z) hM
  rw [hM2] at a0 a1 ⊢
  generalize (if z < 0 then -z else z) % 10 ^ 300 = ow at a0 a1 ⊢
  generalize decide ((10 : Int) ^ (18 : Int).toNat ≤ if z < 0 then -z else z) = b
  cases b with
  | true =>
    rw [if_pos rfl, Int.mul_one]
    exact ⟨a0, a1⟩
  | false =>
    rw [if_neg Bool.false_ne_true, Int.mul_zero]
    exact ⟨Int.le_refl 0, by decide +kernel⟩
theorem pw_10_60 : CPowW 10 60 := ⟨by decide, by decide +kernel⟩
theorem pw_60_5 : CPowW ((10 : Int) ^ (60 : Int).toNat) 5 := ⟨by decide, by decide +kernel⟩
theorem pw_10_18 : CPowW 10 18 := ⟨by decide, by decide +kernel⟩
theorem pw_pos : (0 : Int) < ((10 : Int) ^ (60 : Int).toNat) ^ (5 : Int).toNat := by decide +kernel
theorem b01 (b : Bool) : -(2 ^ 64) < (if b = true then (1 : Int) else 0) ∧ (if b = true then (1 : Int) else 0) < 2 ^ 64 := by cases b <;> decide
theorem mod_small (z : Int) : -(2 ^ 64) < z % 2305843009213693951 ∧ z % 2305843009213693951 < 2 ^ 64 := by omega
theorem mix_ok (z : Int) : 0 ≤ z % 2305843009213693921 ∧ z % 2305843009213693921 < 2 ^ 61 := by omega
/-- a remainder's place in a written list -/
theorem atI_mod {xs : List V} {i : Int} {n : Nat} (hn : xs.length = n) (h0 : 0 ≤ i) (h1 : i < n) : ∃ v, atI xs i = some v ∧ v ∈ xs := by
  obtain ⟨j, hj⟩ : ∃ j : Nat, i = (j : Int) := ⟨i.toNat, by omega⟩
  have hlt : j < xs.length := by omega
  refine ⟨xs[j], ?_, List.getElem_mem hlt⟩
  rw [hj]
  exact atI_nat (List.getElem?_eq_getElem hlt)
end SL
set_option maxHeartbeats 4000000
namespace SL
open PySem PySem.Spec PyProof.Rows L2
/-! rows of errors, rows of looks at an error -/
def tErrs (te : TE) : List Addr → TA
  | [] => tNil
  | C :: r => tCons (tErr C te) (tErrs te r)
structure NewE (H H' : Hp) (as Cs : List Addr) (v : V) : Prop where
  same : Same H H'
  len : as.length = Cs.length
  at_ : ∀ (i : Nat) (a C : Addr), as[i]? = some a → Cs[i]? = some C → ErrAt H' a C v
theorem errs_read {v : V} {σ : L2.St} (h0 : σ[0]? = some (some v)) : ∀ (Cs : List Addr) (H : Hp) (R : List V → Hp → Prop), (∀ as H', NewE H H' as Cs v → R (as.map V.ref) H') → tErrs (tVar 0) Cs σ H R
  | [], H, R, k => k [] H ⟨Same.refl H, rfl, fun i a C h => by simp at h⟩
  | C :: r, H, R, k => by
    refine ⟨v, h0, fun a d ha hd hne => ?_⟩
    have hs : Same H (upd (upd H d (exd d [("value", v)])) a (exo a C (some d))) := fun b o h => by
      rw [upd_ne (ne_of_none h ha), upd_ne (ne_of_none h hd)]
      exact h
    have he : ErrAt (upd (upd H d (exd d [("value", v)])) a (exo a C (some d))) a C v := ⟨d, upd_same, by rw [upd_ne hne]; exact upd_same⟩
    refine errs_read h0 r _ _ fun as H' n => ?_
    refine k (a :: as) H' ⟨hs.trans n.same, by rw [List.length_cons, List.length_cons, n.len], fun i a' C' h1 h2 => ?_⟩
    cases i with
    | zero =>
      have e1 : a = a' := Option.some.inj h1
      have e2 : C = C' := Option.some.inj h2
      rw [← e1, ← e2]
      exact he.same n.same
    | succ i => exact n.at_ i a' C' h1 h2
theorem ErrAt.kp {H H' : Hp} {L a C : Addr} {v : V} {xs : List V} (h : ErrAt H a C v) (hL : H L = some (.lst xs)) (kp : Kp L H H') : ErrAt H' a C v := by
  obtain ⟨d, h1, h2⟩ := h
  have n1 : a ≠ L := ne_of h1 hL (fun z => by
    have z' : HO.ext _ = HO.lst xs := z
    cases z')
  have n2 : d ≠ L := ne_of h2 hL (fun z => by
    have z' : HO.ext _ = HO.lst xs := z
    cases z')
  exact ⟨d, kp _ _ n1 h1, kp _ _ n2 h2⟩
/-- the first n errors stand in the list at L -/
structure MadeTo (c : Nat → Addr) (v : V) (H0 H : Hp) (L : Addr) (as : List Addr) (n : Nat) : Prop where
  lst : H L = some (.lst (as.map V.ref))
  len : as.length = n
  at_ : ∀ (i : Nat) (a : Addr), as[i]? = some a → ErrAt H a (c i) v
  kp : Kp L H0 H
theorem ext_read {K : PySem.W.Frag} {c : Nat → Addr} {v : V} {H0 H : Hp} {L : Addr} {as : List Addr} {n m : Nat} {σ : L2.St} {D : Ends} {Cs : List Addr} (h0 : σ[0]? = some (some v)) (h1 : σ[1]? = some (some (.ref L)))
    (M : MadeTo c v H0 H L as n) (hCs : Cs = (List.range m).map fun j => c (n + j)) (hm : n + m ≤ 1000) (k : ∀ as' H', MadeTo c v H0 H' L as' (n + m) → D.nx σ H') :
    tDrop (tBM K "list" rExtend (tVar 1) (tCons (tLst (tErrs (tVar 0) Cs)) tNil)) D σ H := by
  have hlen : Cs.length = m := by rw [hCs, List.length_map, List.length_range]
  refine ⟨_, h1, .inl ⟨rfl, _, SqL.of M.lst⟩, ?_⟩
  refine errs_read h0 Cs H _ fun bs H1 N => ?_
  have hb : bs.length = m := by rw [N.len, hlen]
  refine ⟨?_, fun q hq => ?_⟩
  · rw [List.length_map, sizeLine_eq]
    omega
  · have hL1 : H1 L = some (.lst (as.map V.ref)) := N.same _ _ M.lst
    have nLq : L ≠ q := ne_of_none hL1 hq
    refine ⟨L, q, as.map V.ref, bs.map V.ref, rfl, rfl, (by rw [upd_ne nLq]; exact hL1), upd_same, ?_, ?_⟩
    · rw [List.length_map, List.length_map, sizeLine_eq, M.len]
      omega
    · have kp1 : Kp L H (upd H1 q (.lst (bs.map V.ref))) := (Kp.of N.same).new hq
      have kp2 : Kp L H1 (upd (upd H1 q (.lst (bs.map V.ref))) L (.lst (as.map V.ref ++ bs.map V.ref))) := fun b o hb' ho => by
        rw [upd_ne hb', upd_ne (ne_of_none ho hq)]
        exact ho
      refine k (as ++ bs) _ ⟨by rw [List.map_append]; exact upd_same, by rw [List.length_append, M.len, hb], fun i a hi => ?_, M.kp.trans ((Kp.of N.same).trans kp2)⟩
      by_cases hin : i < as.length
      · rw [List.getElem?_append_left hin] at hi
        exact ((M.at_ i a hi).same N.same).kp hL1 kp2
      · rw [List.getElem?_append_right (by omega)] at hi
        have hj : i - as.length < m := by
          have := (List.getElem?_eq_some_iff.mp hi).1
          omega
        refine ErrAt.kp (N.at_ (i - as.length) a (c i) hi ?_) hL1 kp2
        rw [hCs, List.getElem?_map, List.getElem?_range hj]
        show some (c (n + (i - as.length))) = some (c i)
        congr 2
        have := M.len
        omega
/-! isinstance over a row of classes -/
def tIss (K : PySem.W.Frag) (D fI : Addr) : List Addr → TA
  | [] => tNil
  | C :: r => tCons (tCB (rIsErr K D fI) (tCons (tVar 0) (tCons (tC (.ref C)) tNil))) (tIss K D fI r)
theorem iss_read {K : PySem.W.Frag} {D fI a C : Addr} {v : V} {σ : L2.St} {H : Hp} (h0 : σ[0]? = some (some (.ref a))) (T : ErrC K D fI C) (he : ErrAt H a C v) : ∀ (Cs : List Addr) (R : List V → Hp → Prop),
    (∀ C' ∈ Cs, PySem.W.kitOne K (.ref C) (.ref C') = some (decide (C = C'))) → R (Cs.map fun C' => V.bl (decide (C = C'))) H → tIss K D fI Cs σ H R
  | [], R, _, k => k
  | C' :: r, R, hk, k => by
    refine ⟨_, h0, a, C, _, _, v, _, rfl, T, he, .own C', hk C' List.mem_cons_self, ?_⟩
    exact iss_read h0 T he r _ (fun C2 h2 => hk C2 (List.mem_cons_of_mem _ h2)) k
/-- list.count of True or False -/
def rCountB (K : PySem.W.Frag) : V → List V → Hp → VK → Prop := fun x vs H Q => ∃ (p : Addr) (bs : List Bool) (k : Bool), x = .ref p ∧ vs = [.bl k] ∧ SqL K H p (bs.map V.bl) ∧ Q (.int (bs.count k)) H
theorem reads_bools {hp : Heap} : ∀ {bs : List Bool} {us : List Value}, Vals (bs.map V.bl) us → ReadsAll hp us (bs.map PyData.bool) []
  | [], _, r => by cases r; exact .nil
  | b :: bs, _, r => by
    cases r with
    | cons r1 r2 =>
      cases r1
      exact .cons (as := []) (bs := []) (.bool b) (reads_bools r2)
theorem countIn_bools (k : Bool) : ∀ bs : List Bool, countIn (.bool k) (bs.map PyData.bool) = ((bs.count k : Nat) : Int)
  | [] => rfl
  | b :: bs => by
    have ih := countIn_bools k bs
    rw [List.map_cons, countIn, ih, List.count_cons]
    simp only [same]
    rcases Bool.eq_false_or_eq_true (b == k) with hb | hb <;> simp only [hb, Bool.false_eq_true, if_true, if_false] <;> push_cast <;> omega
theorem has_bools : ∀ bs : List Bool, (bs.map PyData.bool).all Shape.bool.has = true
  | [] => rfl
  | b :: bs => by
    rw [List.map_cons, List.all_cons, has_bools bs]
    rfl
theorem mt_countB {X : Cx} : MtR X "list.count" (rCountB X.K) := by
  intro pins s σ H x xs v us Q I rx rxs h
  obtain ⟨p, bs, k, rfl, rfl, hs, q⟩ := h
  cases rx
  obtain ⟨u, rfl, ru⟩ := rxs.one
  cases ru
  obtain ⟨its, rv, pl, _⟩ := I.list hs
  refine count_list_bools (hp := s.heap) pl.isList (reads_bools rv) (has_bools bs) ?_
  rw [countIn_bools]
  exact ⟨.int (bs.count k : Nat), H, I.tok _, ⟨_, rfl⟩, q⟩
end SL
set_option maxHeartbeats 4000000
/-! what the top leaves, by facts -/
namespace SL
open PySem PySem.Spec PyProof.Rows L2
def veT : List Value := [.type "ValueError", .type "Exception", .type "BaseException", .type "object"]
/-- the class's object -/
def clB (K : PySem.W.Frag) (C : Addr) : Bool := match K.lookup C with
  | some ⟨.type "type", _, .cls cd, sl⟩ => (match cd.mro, sl.toList with
    | .ref C' :: bm, [_, _, _, _, some (.builtin n), _] => C' == C && (n == "ValueError.__new__" && (!cd.hasDel && (cd.hasDict && PySem.HandSPX.refsVE bm)))
    | _, _ => false)
  | _ => false
theorem clB_ok {K : PySem.W.Frag} {C : Addr} (h : clB K C = true) :
    ∃ nm q N bs bm sn sub ab col dd k0 k1 k2 k3 k5, K.lookup C = some (excClassObj nm q C N bs bm true sn sub ab col dd k0 k1 k2 k3 k5 "ValueError.__new__") ∧ PySem.HandSPX.refsVE bm = true := by
  unfold clB at h
  split at h
  · rename_i dd cd sl ho
    split at h
    · rename_i C' bm k0 k1 k2 k3 n k5 hm hs
      simp only [Bool.and_eq_true, beq_iff_eq, Bool.not_eq_true'] at h
      obtain ⟨rfl, rfl, hdel, hd, hr⟩ := h
      obtain ⟨nm, bs, mro, ns, qn, hdc, sn, sub, ab, col, del⟩ := cd
      dsimp only at hm hdel hd
      subst hm hdel hd
      have hsl : sl = #[k0, k1, k2, k3, some (.builtin "ValueError.__new__"), k5] := by
        obtain ⟨l⟩ := sl
        simp only at hs
        rw [hs]
      subst hsl
      exact ⟨nm, qn, ns, bs, bm, sn, sub, ab, col, dd, k0, k1, k2, k3, k5, ho, hr⟩
    · cases h
  · cases h
def dO (a b : Option (Option Value)) : Bool := decide (a = b)
def dB (a : Option Bool) : Bool := decide (a = some true)
/-- an error's class -/
def errB (K : PySem.W.Frag) (D fI C : Addr) : Bool :=
  clB K C && (dO (PySem.W.findIn K (.ref C) "__setattr__") (some (some (.builtin "object.__setattr__"))) && (dO (PySem.W.findIn K (.ref C) "__getattribute__") (some (some (.builtin "BaseException.__getattribute__"))) &&
  (dO (PySem.W.findIn K (.ref C) "__getattr__") (some none) && (dO (PySem.W.findIn K (.ref C) "value") (some none) && (dO (PySem.W.findIn K (.ref C) "__init__") (some (some (.ref fI))) &&
  (decide (PySem.W.typeIn K (.ref fI) = some (.type "function")) && (PySem.W.keepIn K (.ref C) && (dB (PySem.W.subIn K (.ref C) (.type "BaseException")) && (dB (PySem.W.subIn K (.ref C) (.type "ValueError")) &&
  (decide (PySem.W.typeIn K (.ref C) = some (.type "type")) && (PySem.W.hasDictIn K C && (dB (PySem.W.mroIn K C (.ref D)) && (dO (PySem.W.ks_superIn K C D "__init__") (some (some (.builtin "ValueError.__init__"))) &&
  (dO (PySem.W.findIn K (.ref C) "__class__") (some (some (.builtin "object.__class__"))) && (dO (PySem.W.specialIn K (.builtin "object.__class__") "__get__") (some (some (.builtin "getset_descriptor.__get__"))) &&
  (dB (PySem.W.takesIn K (.builtin "object.__class__")) && dB (PySem.W.mroIn K C (.type "object"))))))))))))))))))
theorem errB_ok {K : PySem.W.Frag} {D fI C : Addr} (h : errB K D fI C = true) : ErrC K D fI C := by
  unfold errB dO dB at h
  simp only [Bool.and_eq_true, decide_eq_true_eq] at h
  obtain ⟨h1, h2, h3, h4, h5, h6, h7, h8, h9, h10, h11, h12, h13, h14, h15, h16, h17, h18⟩ := h
  exact ⟨clB_ok h1, h2, h3, h4, h5, h6, h7, h8, h9, h10, h11, h12, h13, h14, h15, h16, h17, h18⟩
/-- the __init__ at fI -/
abbrev FnI : Type := Option (Str × Str × Arguments × FuncBody × Scope × Addr × Addr × List Str)
def fnI (K : PySem.W.Frag) (f : Addr) : FnI := match K.lookup f with
  | some ⟨_, _, .func fd, _⟩ => some (fd.name, fd.qualname, fd.params, fd.body, fd.scope, fd.globals, fd.builtins, fd.closure.map (·.1))
  | _ => none
def iniV (q1 q2 p0 p1 p2 p3 p4 p5 p6 p7 p8 p9 : Pos) : FnI := some ("__init__", "LabelError.__init__", erA q1 q2, .stmts (erB p0 p1 p2 p3 p4 p5 p6 p7 p8 p9), erS, mainGlobals, builtinsNs, ["__class__"])
def fileB (P : Program) (vs : Array Value) : Bool := match vs[2]? with
  | some (Value.str file _) => ((P.main.file : Str) == file)
  | _ => false
def iniB (P : Program) (K : PySem.W.Frag) (D fI : Addr) : Bool := (match K.lookup fI with
  | some ⟨_, _, .func fd, _⟩ => (match fd.code, fd.closure, fd.defaults with
    | .ref cda, [(_, cc)], .none => PySem.W.codeIn K (.ref cda) "LabelError.__init__" && ((match K.lookup cda with
        | some ⟨_, _, .fields vs, _⟩ => fileB P vs
        | _ => false) && (match K.lookup cc with
        | some ⟨_, _, .cell (some (.ref D')), _⟩ => D' == D
        | _ => false))
    | _, _, _ => false)
  | _ => false) && ((PySem.W.clsIn K D).isSome && decide (PySem.W.nsIn K cStatics "thirdparty.any" = some none))
theorem iniB_ok {P : Program} {K : PySem.W.Frag} {D fI : Addr} {q1 q2 p0 p1 p2 p3 p4 p5 p6 p7 p8 p9 : Pos} (h : iniB P K D fI = true)
    (e : fnI K fI = iniV q1 q2 p0 p1 p2 p3 p4 p5 p6 p7 p8 p9) (hp : (p2.endLine == p4.line) = true) (hn : (P.main.scope.names.lookup ("super" : Str)).isSome = false) :
    ∃ fd, IniT P K D fI fd ∧ fd.defaults = .none := by
  unfold iniB at h
  rw [Bool.and_eq_true] at h
  obtain ⟨h1, h2⟩ := h
  rw [Bool.and_eq_true, decide_eq_true_eq] at h2
  unfold fnI at e
  cases lk : K.lookup fI with
  | none => rw [lk] at h1; cases h1
  | some o =>
    rw [lk] at h1 e
    obtain ⟨oc, od, dt, osl⟩ := o
    cases dt with
    | func fd =>
      obtain ⟨n1, n2, n3, n4, n5, n6, n7, n8, n9, n10, n11, n12, n13, n14, n15⟩ := fd
      have e2 : (some (n1, n2, n3, n4, n5, n6, n15, n7.map (·.1)) : FnI) = iniV q1 q2 p0 p1 p2 p3 p4 p5 p6 p7 p8 p9 := e
      unfold iniV at e2
      simp only [Option.some.injEq, Prod.mk.injEq] at e2
      obtain ⟨e1, e2, e3, e4, e5, e6, e7, e8⟩ := e2
      subst e1 e2 e3 e4 e5 e6 e7
      dsimp only at h1
      split at h1
      · rename_i cda nm cc
        rw [List.map_cons, List.map_nil] at e8
        have e9 : nm = "__class__" := (List.cons.inj e8).1
        subst e9
        simp only [Bool.and_eq_true] at h1
        obtain ⟨c1, c2, c3⟩ := h1
        refine ⟨_, ⟨⟨oc, od, _, _, _, _, _, cda, _, osl, cc, q1, q2, p0, p1, p2, p3, p4, p5, p6, p7, p8, p9, rfl, hp, lk, c1, ?_, ?_⟩, h2.1, hn, h2.2⟩, rfl⟩
        · split at c2
          · rename_i ccl cdd vs ccs ho
            unfold fileB at c2
            split at c2
            · rename_i file tf hv
              exact ⟨ccl, cdd, vs, ccs, file, tf, ho, hv, c2⟩
            · cases c2
          · cases c2
        · split at c3
          · rename_i cl cld D' csl ho
            have : D' = D := beq_iff_eq.mp c3
            subst this
            exact ⟨cl, cld, csl, ho⟩
          · cases c3
      · cases h1
    | _ => cases h1
/-! the Hook -/
def fragX (n : Nat) (g : Addr → Option Obj) : PySem.W.Frag := He.frG g (sysModules :: cStatics :: He.asD g n)
abbrev AlX : Type := (He.AlD × FnI) × Bool
def obsX (fa : List He.Fa) (fn : List He.DefD) (fI : PySem.W.Frag → Addr) (ex : PySem.W.Frag → Bool) (K : PySem.W.Frag) : AlX := ((He.obsD fa fn K, fnI K (fI K)), ex K)
def hookX (n : Nat) (fa : List He.Fa) (fn : List He.DefD) (fI : PySem.W.Frag → Addr) (iv : FnI) (ex : PySem.W.Frag → Bool) : PySem.W.Hook where
  α := AlX
  obs := fun s => obsX fa fn fI ex (fragX n s.heap.get?)
  val := fun _ => ((He.valD fn, iv), true)
  says := fun _ h => ∃ K : PySem.W.Frag, K.In h ∧ obsX fa fn fI ex K = ((He.valD fn, iv), true)
  of := fun _ _ e => ⟨_, He.frG_in, e⟩
  keeps := fun _ _ _ ⟨K, hK, c⟩ k => ⟨K, PySem.W.Frag.In.keeps hK k, c⟩
theorem obsX_eq {n : Nat} {fa : List He.Fa} {fn : List He.DefD} {fI : PySem.W.Frag → Addr} {iv : FnI} {ex : PySem.W.Frag → Bool} {g : Addr → Option Obj} {s : Shared} (h : ∀ a, g a = s.heap.get? a) :
    obsX fa fn fI ex (fragX n g) = (hookX n fa fn fI iv ex).obs s := by
  have e : g = s.heap.get? := funext h
  rw [e] <;> rfl
end SL
set_option maxHeartbeats 4000000
namespace K14
open PySem PySem.Spec PyProof.Rows L2 SL
def top (i : Nat) : Stmt := PySem.Challenge.pw_steadylabels_k14_errors_by_themselves.main.body.getD i (.Pass ⟨0, 0, 0, 0⟩)
abbrev sPot : Stmt := top 29
abbrev sTake : Stmt := top 30
abbrev sOf : Stmt := top 31
abbrev sValue : Stmt := top 32
abbrev sMade : Stmt := top 33
abbrev sNamed : Stmt := top 34
abbrev sKinds : Stmt := top 35
abbrev sAll : Stmt := top 36
abbrev sLaw : Stmt := top 37
abbrev FnP (K : PySem.W.Frag) (x : Str) (st : Stmt) (f : Addr) (fd : FuncData) : Prop := FunD K x x (defArgs st) (defBody st) (defScope st) [] [] f fd
section
variable {P : Program} {w : World} {K : PySem.W.Frag} {mg : Str → Option Value} {base : Heap} {f : Addr} {fd : FuncData}
theorem scTake : FnScope ["_law_pot_here", "_law_upto", "_law_prime", "_law_mixed", "_law_digit"] ["_law_pot_here", "_law_upto"] (defScope sTake) := ⟨rfl, rfl, rfl, by decide +kernel, rfl, by decide +kernel, by decide +kernel⟩
theorem ok_take (F : FnP K "_law_take" sTake f fd) (gInt : mg "int" = none) : FnOk P w K mg base CX0 1 f fd ["_law_pot_here", "_law_upto"] spTake := by
  refine F.ok scTake (fun vs H Q E h => ?_) (fun cdv A outer s H vs Q E hr h => ?_)
  · obtain ⟨p, n, f, l, rfl, _⟩ := h
    rfl
  · obtain ⟨p, n, f, l, rfl, hp, ⟨o, m, c, rfl, h1, h2, h3, h4, h5, h6⟩, hn, hn2, k⟩ := h
    refine ⟨_, PSs.nox (pss_cons (ps_if (pt_cmpR op_gt (pe_ix ix_list (pv 0) pe_int (fun _ _ => rfl)) pe_int (nomark _)) (pss_cons (ps_set (i := 4) scTake.nd rfl (Or.inl rfl) (pe_op op_mod (pe_callTy call_int1 (by rfl) gInt boot_int (pa_cons (pe_ix ix_list (pv 0) pe_int (fun _ _ => rfl)) pa_nil)) (pv 1)))
      (pss_cons (ps_asg (pe_op op_fdivW (pe_ix ix_list (pv 0) pe_int (fun _ _ => rfl)) (pv 1)) (pg_sub (pv 0) pe_int set_list))
      (pss_one (ps_ret (pv 4))))) pss_nil)
      (pss_cons (ps_asg (pe_op op_add (pe_ix ix_list (pv 0) pe_int (fun _ _ => rfl)) pe_int) (pg_sub (pv 0) pe_int set_list))
      (pss_cons (ps_set (i := 2) scTake.nd rfl (Or.inl rfl) (pe_ix ix_list (pe_lst (pa_cons pe_int (pa_cons pe_int (pa_cons pe_int (pa_cons pe_int (pa_cons pe_int pa_nil)))))) (pe_op op_mod (pe_callTy call_int1 (by rfl) gInt boot_int (pa_cons (pe_ix ix_list (pv 0) pe_int (fun _ _ => rfl)) pa_nil)) pe_int) (fun _ _ => rfl)))
      (pss_cons (ps_set (i := 3) scTake.nd rfl (Or.inl rfl) (pe_op op_mod (pe_callTy call_int1 (by rfl) gInt boot_int (pa_cons (pe_op op_powW (pe_callTy call_int1 (by rfl) gInt boot_int (pa_cons (pe_op op_add (pe_op op_add (pe_ix ix_list (pv 0) pe_int (fun _ _ => rfl)) (pe_op op_mul (pe_op op_mul pe_int (pe_ix ix_list (pv 0) pe_int (fun _ _ => rfl))) (pe_ix ix_list (pv 0) pe_int (fun _ _ => rfl)))) pe_int) pa_nil)) pe_int) pa_nil)) (pv 2)))
      (pss_cons (ps_set (i := 3) scTake.nd rfl (Or.inl rfl) (pe_op op_mod (pe_callTy call_int1 (by rfl) gInt boot_int (pa_cons (pe_op op_mul (pv 3) (pe_op op_add (pe_op op_mod (pe_callTy call_int1 (by rfl) gInt boot_int (pa_cons (pv 3) pa_nil)) pe_int) (pe_op op_mul pe_int (pe_ix ix_list (pv 0) pe_int (fun _ _ => rfl))))) pa_nil)) pe_int))
      (pss_one (ps_ret (pe_op op_mod (pe_callTy call_int1 (by rfl) gInt boot_int (pa_cons (pe_op op_fdivW (pv 3) pe_int) pa_nil)) (pv 1))))))))), ?_⟩
    -- if pot[0] > 0
    refine ⟨_, rfl, p, _, _, _, rfl, rfl, SqL.of hp, rfl, _, _, rfl, rfl, _, rfl, ?_⟩
    refine ite2 (fun h0 => ?_) (fun h0 => ?_)
    · have h0' : 0 < o := of_decide_eq_true h0
      have hq : CDivW o n := wide_div (b := 60) hn (by omega) (by decide) (by decide)
      refine ⟨_, rfl, p, _, _, _, rfl, rfl, SqL.of hp, rfl, .inl ⟨_, rfl, _, rfl, _, _, rfl, rfl, hn, ?_⟩⟩
      refine ⟨_, rfl, p, _, _, _, rfl, rfl, SqL.of hp, rfl, _, rfl, _, _, rfl, rfl, hq, _, rfl, p, _, _, 0, rfl, rfl, hp, rfl, ?_⟩
      refine ⟨_, rfl, ?_⟩
      refine k _ _ _ (Int.emod_nonneg _ (by omega)) (Int.emod_lt_of_pos _ hn) ⟨o / n, m, c, rfl, Int.ediv_nonneg h1 (by omega), ?_, h3, h4, h5, by omega⟩ upd_same Kp.upd
      exact Int.lt_of_le_of_lt (Int.ediv_le_self _ h1) h2
    · -- pot[2] = pot[2] + 1
      refine ⟨_, rfl, p, _, _, _, rfl, rfl, SqL.of hp, rfl, _, _, rfl, rfl, _, rfl, p, _, _, 2, rfl, rfl, hp, rfl, ?_⟩
      have hp1 : upd H p (.lst [V.int o, V.int m, V.int (c + 1)]) p = some (.lst [V.int o, V.int m, V.int (c + 1)]) := upd_same
      -- prime = [..][int(pot[2]) % 5]
      refine ⟨(by show 5 ≤ sizeLine; decide), fun q hq => ?_⟩
      have npq : p ≠ q := ne_of_none hp1 hq
      have hp2 : upd (upd H p (.lst [V.int o, V.int m, V.int (c + 1)])) q (.lst [V.int 2147483647, V.int 2147483629, V.int 2147483587, V.int 2147483579, V.int 2147483563]) p = some (.lst [V.int o, V.int m, V.int (c + 1)]) := by
        rw [upd_ne npq]
        exact hp1
      have kp2 : Kp p H (upd (upd H p (.lst [V.int o, V.int m, V.int (c + 1)])) q (.lst [V.int 2147483647, V.int 2147483629, V.int 2147483587, V.int 2147483579, V.int 2147483563])) := Kp.upd.new hq
      obtain ⟨pr, hat, hmem⟩ := atI_mod (xs := [V.int 2147483647, V.int 2147483629, V.int 2147483587, V.int 2147483579, V.int 2147483563]) (i := (c + 1) % 5) (n := 5) rfl (Int.emod_nonneg _ (by decide)) (Int.emod_lt_of_pos _ (by decide))
      obtain ⟨pi, rfl, hpi0, hpi1⟩ : ∃ pi : Int, pr = V.int pi ∧ 0 < pi ∧ pi < 2 ^ 31 := by
        simp only [List.mem_cons, List.not_mem_nil, or_false] at hmem
        rcases hmem with rfl | rfl | rfl | rfl | rfl <;> exact ⟨_, rfl, by decide, by decide⟩
      refine ⟨_, rfl, p, _, _, _, rfl, rfl, SqL.of hp2, rfl, .inl ⟨_, rfl, _, _, rfl, rfl, (by show (0 : Int) < 5; decide), q, _, _, _, rfl, rfl, SqL.of upd_same, hat, ?_⟩⟩
      -- mixed = int(int(pot[1] + 104707 * pot[2] * pot[2] + 31) ** 3) % prime
      have hc1 : 0 ≤ c + 1 := by omega
      have hc2 : c + 1 ≤ 1000000 := by omega
      have hsq0 : 0 ≤ 104707 * (c + 1) * (c + 1) := Int.mul_nonneg (by omega) hc1
      have hsq1 : 104707 * (c + 1) * (c + 1) ≤ 104707 * 1000000 * 1000000 := Int.mul_le_mul (by omega) hc2 hc1 (by decide)
      refine ⟨_, rfl, p, _, _, _, rfl, rfl, SqL.of hp2, rfl, _, rfl, p, _, _, _, rfl, rfl, SqL.of hp2, rfl, _, _, rfl, rfl, .inl ⟨by decide, by decide⟩, _, rfl, p, _, _, _, rfl, rfl, SqL.of hp2, rfl, _, _, rfl, rfl, .inr ⟨by omega, by omega⟩, _, _, rfl, rfl, _, _, rfl, rfl, ?_⟩
      have hx0 : 0 ≤ m + 104707 * (c + 1) * (c + 1) + 31 := by omega
      have hx1 : m + 104707 * (c + 1) * (c + 1) + 31 < 2 ^ 63 := by omega
      have hb3 := bits_le (i := m + 104707 * (c + 1) * (c + 1) + 31) (n := 63) (by omega)
      have hpw : CPowW (m + 104707 * (c + 1) * (c + 1) + 31) 3 := ⟨by decide, by omega⟩
      refine .inl ⟨_, rfl, _, _, rfl, rfl, hpw, .inl ⟨_, rfl, _, rfl, _, _, rfl, rfl, hpi0, ?_⟩⟩
      generalize hM : (m + 104707 * (c + 1) * (c + 1) + 31) ^ (3 : Int).toNat % pi = M1
      have hM0 : 0 ≤ M1 := by rw [← hM]; exact Int.emod_nonneg _ (by omega)
      have hM1 : M1 < 2 ^ 31 := by rw [← hM]; exact Int.lt_trans (Int.emod_lt_of_pos _ hpi0) hpi1
      -- mixed = int(mixed * (int(mixed) % 10009 + 101 * pot[2])) % 2305843009213693907
      refine ⟨_, rfl, _, rfl, .inl ⟨_, rfl, _, _, rfl, rfl, (by show (0 : Int) < 10009; decide), ?_⟩⟩
      refine ⟨_, rfl, p, _, _, _, rfl, rfl, SqL.of hp2, rfl, _, _, rfl, rfl, .inl ⟨by decide, by decide⟩, _, _, rfl, rfl, _, _, rfl, rfl, .inl ⟨by omega, by omega⟩, .inl ⟨_, rfl, _, _, rfl, rfl, (by show (0 : Int) < 2305843009213693907; decide), ?_⟩⟩
      -- return int(mixed // 109) % upto
      refine ⟨_, rfl, _, _, rfl, rfl, wide_div (b := 60) (by decide) (by decide) (by decide) (by decide), .inl ⟨_, rfl, _, rfl, _, _, rfl, rfl, hn, ?_⟩⟩
      refine k _ _ _ (Int.emod_nonneg _ (by omega)) (Int.emod_lt_of_pos _ hn) ⟨o, m, c + 1, rfl, h1, h2, h3, h4, by omega, by omega⟩ hp2 kp2
theorem scOf : FnScope ["_law_pot_here", "_law_some"] ["_law_pot_here", "_law_some"] (defScope sOf) := ⟨rfl, rfl, rfl, by decide +kernel, rfl, by decide +kernel, by decide +kernel⟩
theorem ok_of {fT : Addr} {fdT : FuncData} (F : FnP K "_law_of" sOf f fd) (gLen : mg "len" = none) (gT : mg "_law_take" = some (.ref fT)) (FT : FnP K "_law_take" sTake fT fdT) (gInt : mg "int" = none) : FnOk P w K mg base CX0 2 f fd ["_law_pot_here", "_law_some"] spOf := by
  have GT : FnOk P w K mg base CX0 1 fT fdT ["_law_pot_here", "_law_upto"] spTake := ok_take FT gInt
  have bT : Binds K fdT ["_law_pot_here", "_law_upto"] [] := FT.bindsN fun _ _ _ _ _ _ us hl => match us, hl with | [_, _], _ => rfl
  refine F.ok scOf (fun vs H Q E h => ?_) (fun cdv A outer s H vs Q E hr h => ?_)
  · obtain ⟨p, a, f, l, xs, rfl, _⟩ := h
    rfl
  · obtain ⟨p, a, f, l, xs, rfl, hp, hl, ha, hap, hx0, hx1, k⟩ := h
    refine ⟨_, PSs.nox (pss_one (ps_ret (pe_ix ix_list (pv 1) (pe_call GT hr rfl gT FT.kp bT .nil pass0 (pa_cons (pv 0) (pa_cons (pe_callB call_len (by rfl) gLen (by decide +kernel) (pa_cons (pv 1) pa_nil)) pa_nil))) (fun _ _ => rfl)))), ?_⟩
    refine ⟨_, rfl, _, rfl, _, rfl, _, xs.length, rfl, .inl ⟨_, SqL.of ha, rfl⟩, ?_⟩
    refine ⟨p, xs.length, f, l, rfl, hp, hl, by omega, by omega, fun r l' H' h0 h1 hl' hp' kp => ?_⟩
    obtain ⟨v, hv, hm⟩ := atI_mod (xs := xs) (i := r) rfl h0 h1
    refine ⟨a, xs, r, v, rfl, rfl, SqL.of (kp a _ hap ha), hv, k v l' H' hm hl' hp' kp⟩
theorem scPot : FnScope ["_law_script", "_law_k", "_law_cell", "_law_own", "_law_small"] ["_law_script", "_law_k"] (defScope sPot) := ⟨rfl, rfl, rfl, by decide +kernel, rfl, by decide +kernel, by decide +kernel⟩
theorem ok_pot (F : FnP K "_law_pot" sPot f fd) (gLen : mg "len" = none) (gInt : mg "int" = none) (gAbs : mg "abs" = none) : FnOk P w K mg base CX0 1 f fd ["_law_script", "_law_k"] (spPot K) := by
  refine F.ok scPot (fun vs H Q E h => ?_) (fun cdv A outer s H vs Q E hr h => ?_)
  · obtain ⟨a, ns, k, rfl, _⟩ := h
    rfl
  · obtain ⟨a, ns, k, rfl, hS, hk0, hk1, hl, q⟩ := h
    refine ⟨_, PSs.nox (pss_cons (ps_set (i := 2) scPot.nd rfl (Or.inl rfl) (pe_ifExp (pt_cmpR op_lt (pv 1) (pe_callB call_len (by rfl) gLen (by decide +kernel) (pa_cons (pv 0) pa_nil)) (nomark _)) (pe_ix ix_list (pv 0) (pv 1) (fun _ _ => rfl)) (pe_op op_add (pe_op op_mul pe_int (pv 1)) pe_int)))
      (pss_cons (ps_set (i := 3) scPot.nd rfl (Or.inl rfl) (pe_op op_mul (pe_op op_mod (pe_callTy call_int1 (by rfl) gInt boot_int (pa_cons (pe_callB call_abs (by rfl) gAbs (by decide +kernel) (pa_cons (pv 2) pa_nil)) pa_nil)) (pe_op op_powW (pe_op op_powW pe_int pe_int) pe_int)) (pe_callTy call_int1 (by rfl) gInt boot_int (pa_cons (pe_cmpR op_ge (pe_callB call_abs (by rfl) gAbs (by decide +kernel) (pa_cons (pv 2) pa_nil)) (pe_op op_powW pe_int pe_int) (nomark _)) pa_nil))))
      (pss_cons (ps_set (i := 4) scPot.nd rfl (Or.inl rfl) (pe_op op_mod (pe_callTy call_int1 (by rfl) gInt boot_int (pa_cons (pv 2) pa_nil)) pe_int))
      (pss_one (ps_ret (pe_lst (pa_cons (pv 3) (pa_cons (pe_op op_mod (pe_callTy call_int1 (by rfl) gInt boot_int (pa_cons (pe_op op_add (pe_op op_add (pe_op op_mul (pv 4) pe_int) (pe_op op_mul (pe_op op_mul pe_int (pv 1)) (pv 1))) pe_int) pa_nil)) pe_int) (pa_cons pe_int pa_nil))))))))), ?_⟩
    -- cell
    refine ⟨_, rfl, _, rfl, _, ns.length, rfl, .inl ⟨_, hS, by rw [List.length_map]⟩, _, _, rfl, rfl, _, rfl, ?_⟩
    refine ite2 (fun h0 => ?wa) (fun h0 => ?wb)
    case' wa =>
      have h0' : k < ns.length := of_decide_eq_true h0
      obtain ⟨z, hz⟩ : ∃ z : Int, (ns.map V.int)[k.toNat]? = some (V.int z) := ⟨ns[k.toNat]'(by omega), by rw [List.getElem?_map, List.getElem?_eq_getElem (by omega)]; rfl⟩
      refine ⟨_, rfl, _, rfl, a, _, _, V.int z, rfl, rfl, hS, at_of (j := k.toNat) (by omega) hz, ?_⟩
    case' wb =>
      refine ⟨_, rfl, _, _, rfl, rfl, .inl ⟨by decide, by decide⟩, _, _, rfl, rfl, ?_⟩
    all_goals
      -- own
      refine ⟨_, rfl, _, rfl, .inl ⟨_, rfl, ?_⟩⟩
      refine ⟨_, _, rfl, rfl, pw_10_60, _, _, rfl, rfl, pw_60_5, _, _, rfl, rfl, pw_pos, ?_⟩
      refine ⟨_, rfl, _, rfl, _, _, rfl, rfl, pw_10_18, _, _, rfl, rfl, .inr ⟨_, rfl, ?_⟩⟩
      refine ⟨_, _, rfl, rfl, .inr (b01 _), ?_⟩
      -- small
      refine ⟨_, rfl, .inl ⟨_, rfl, _, _, rfl, rfl, (by show (0 : Int) < 2305843009213693951; decide), ?_⟩⟩
      refine ⟨_, rfl, _, rfl, _, _, rfl, rfl, .inl (mod_small _), _, rfl, _, _, rfl, rfl, .inl ⟨by decide, by decide⟩, _, rfl, _, _, rfl, rfl, .inr ⟨by omega, by omega⟩, _, _, rfl, rfl, _, _, rfl, rfl, .inl ⟨_, rfl, _, _, rfl, rfl, (by show (0 : Int) < 2305843009213693921; decide), ?_⟩⟩
      refine ⟨(by show 3 ≤ sizeLine; decide), fun p hp => ?_⟩
      exact q p _ _ hp ⟨_, _, _, rfl, (own_ok _).1, (own_ok _).2, (mix_ok _).1, (mix_ok _).2, by decide, by decide⟩ upd_same (same_new hp)
end
end K14
set_option maxHeartbeats 4000000
namespace K14
open PySem PySem.Spec PyProof.Rows L2 SL
def BV (d : Nat) : Nat := 200 * 4 ^ d
def FV (d : Nat) : Nat := 4 * 5 ^ d
/-- _law_value(pot, deep), deep below d -/
def spValue (d : Nat) : Sp := fun vs H Q _ => ∃ (p : Addr) (n f : Nat) (l : List V), vs = [.ref p, .int n] ∧ n < d ∧ H p = some (.lst l) ∧ PotL (f + FV n) l ∧
  ∀ (v : V) (D : PyData) (l' : List V) (H' : Hp), Rv (Hx H H') v D → Sh D (BV n) (2 * n) → PotL f l' → H' p = some (.lst l') → Kp p H H' → Q v H'
theorem sh_atom {H : Hp} {x : V} {a b : Int} (ha : a.natAbs < 10 ^ 30) (hb : b.natAbs < 10 ^ 30) (h : x ∈ [V.int a, V.int b, V.str "", V.str "a", V.str "class a", V.bl true, V.bl false, V.non, V.int 0]) (n : Nat) : ∃ D, Rv H x D ∧ Sh D (BV n) (2 * n) := by
  have hB : 200 ≤ BV n := by
    unfold BV
    have : 0 < 4 ^ n := Nat.pow_pos (by decide)
    omega
  simp only [List.mem_cons, List.not_mem_nil, or_false] at h
  rcases h with rfl | rfl | rfl | rfl | rfl | rfl | rfl | rfl | rfl
  · exact ⟨_, .int _, (Sh.int ha).mono hB (Nat.zero_le _)⟩
  · exact ⟨_, .int _, (Sh.int hb).mono hB (Nat.zero_le _)⟩
  · exact ⟨_, .str _, Sh.mono (n := 200) (m := 0) (Sh.str (by decide +kernel) (by decide +kernel)) hB (Nat.zero_le _)⟩
  · exact ⟨_, .str _, Sh.mono (n := 200) (m := 0) (Sh.str (by decide +kernel) (by decide +kernel)) hB (Nat.zero_le _)⟩
  · exact ⟨_, .str _, Sh.mono (n := 200) (m := 0) (Sh.str (by decide +kernel) (by decide +kernel)) hB (Nat.zero_le _)⟩
  · exact ⟨_, .bl _, Sh.bool⟩
  · exact ⟨_, .bl _, Sh.bool⟩
  · exact ⟨_, .non, Sh.none⟩
  · exact ⟨_, .int _, (Sh.int (by decide)).mono hB (Nat.zero_le _)⟩
section
variable {P : Program} {w : World} {K : PySem.W.Frag} {mg : Str → Option Value} {base : Heap} {f fT fO : Addr} {fd fdT fdO : FuncData}
abbrev nValue : List Str := ["_law_pot_here", "_law_deep", "_law_way", "_law_some", "_law_turn"]
theorem scValue : FnScope nValue ["_law_pot_here", "_law_deep"] (defScope sValue) := ⟨rfl, rfl, rfl, by decide +kernel, rfl, by decide +kernel, by decide +kernel⟩
theorem ok_value (F : FnP K "_law_value" sValue f fd) (gV : mg "_law_value" = some (.ref f)) (FT : FnP K "_law_take" sTake fT fdT) (gTake : mg "_law_take" = some (.ref fT)) (FO : FnP K "_law_of" sOf fO fdO) (gOf : mg "_law_of" = some (.ref fO))
    (gLen : mg "len" = none) (gInt : mg "int" = none) (gRange : mg "range" = none) (gTuple : mg "tuple" = none) : ∀ d : Nat, FnOk P w K mg base CX0 (2 + d) f fd ["_law_pot_here", "_law_deep"] (spValue d) := by
  have GT : FnOk P w K mg base CX0 1 fT fdT ["_law_pot_here", "_law_upto"] spTake := ok_take FT gInt
  have bT : Binds K fdT ["_law_pot_here", "_law_upto"] [] := FT.bindsN fun _ _ _ _ _ _ us hl => match us, hl with | [_, _], _ => rfl
  have GO : FnOk P w K mg base CX0 2 fO fdO ["_law_pot_here", "_law_some"] spOf := ok_of FO gLen gTake FT gInt
  have bO : Binds K fdO ["_law_pot_here", "_law_some"] [] := FO.bindsN fun _ _ _ _ _ _ us hl => match us, hl with | [_, _], _ => rfl
  have bV : Binds K fd ["_law_pot_here", "_law_deep"] [] := F.bindsN fun _ _ _ _ _ _ us hl => match us, hl with | [_, _], _ => rfl
  intro d
  induction d with
  | zero =>
    refine ⟨fun vs H Q E h => ?_, fun A outer s H args us vs Q E _ _ _ _ h => ?_⟩
    · obtain ⟨p, n, f, l, rfl, _⟩ := h
      rfl
    · obtain ⟨p, n, f, l, _, h0, _⟩ := h
      exact absurd h0 (Nat.not_lt_zero _)
  | succ d GV =>
    refine F.ok (k := 2 + d) scValue (fun vs H Q E h => ?_) (fun cdv A outer s H vs Q E hr h => ?_)
    · obtain ⟨p, n, f, l, rfl, _⟩ := h
      rfl
    · obtain ⟨p, n, f, l, rfl, hnd, hp, hl, k⟩ := h
      have hr1 : Room 1 _ := hr.mono (by omega)
      have hr2 : Room 2 _ := hr.mono (by omega)
      refine ⟨_, PSs.nox (pss_cons (ps_set (i := 2) scValue.nd rfl (Or.inl rfl) (pe_call GT hr1 rfl gTake FT.kp bT .nil pass0 (pa_cons (pv 0) (pa_cons (pe_ifExp (pt_cmpR op_gt (pv 1) pe_int (nomark _)) pe_int pe_int) pa_nil))))
      (pss_cons (ps_if (pt_cmpR op_lt (pv 2) pe_int (nomark _)) (pss_cons (ps_set (i := 3) scValue.nd rfl (Or.inl rfl) (pe_lst (pa_cons (pe_op op_sub (pe_call GT hr1 rfl gTake FT.kp bT .nil pass0 (pa_cons (pv 0) (pa_cons pe_int pa_nil))) pe_int) (pa_cons (pe_call GT hr1 rfl gTake FT.kp bT .nil pass0 (pa_cons (pv 0) (pa_cons pe_int pa_nil))) pa_nil))))
      (pss_one (ps_ret (pe_call GO hr2 rfl gOf FO.kp bO .nil pass0 (pa_cons (pv 0) (pa_cons (pe_op op_cat (pv 3) (pe_lst (pa_cons pe_str (pa_cons pe_str (pa_cons pe_str (pa_cons pe_bl (pa_cons pe_bl (pa_cons pe_non (pa_cons pe_int pa_nil))))))))) pa_nil)))))) pss_nil)
      (pss_cons (ps_setLc (i := 3) (own := [("_law_turn", 4)]) (by rfl) scValue.nd rfl rfl (sw_true rfl rfl rfl (by decide +kernel)) (pi_range1 (by rfl) gRange (pa_cons (pe_call GT hr1 rfl gTake FT.kp bT .nil pass0 (pa_cons (pv 0) (pa_cons pe_int pa_nil))) pa_nil)) (blkOk_by (N := nValue) (sc := defScope sValue) (own := [("_law_turn", 4)]) (by decide +kernel)) (fun _ _ _ _ _ => (pg_name (i := 4) scValue.nd rfl (Or.inl rfl))) (fun _ _ _ _ _ => pts_nil) (fun _ _ _ _ _ => (pe_call GV hr rfl gV F.kp bV .nil pass0 (pa_cons (pv 0) (pa_cons (pe_op op_sub (pv 1) pe_int) pa_nil)))))
      (pss_cons (ps_if (pt_cmpR op_eq (pv 2) pe_int (nomark _)) (pss_one (ps_ret (pe_disp (pps_cons pe_str (pv 3) pps_nil) (by rfl) (by rfl) (fun z => by cases z) (by decide)))) pss_nil)
      (pss_one (ps_ret (pe_ifExp (pt_cmpR op_eq (pv 2) pe_int (nomark _)) (pe_callTy call_tuple_of (by rfl) gTuple boot_tuple (pa_cons (pv 3) pa_nil)) (pv 3)))))))), ?_⟩
      have hF4 : 4 ≤ FV n := by
        unfold FV
        have : 0 < 5 ^ n := Nat.pow_pos (by decide)
        omega
      obtain ⟨e, he⟩ : ∃ e, FV n = e + 4 := ⟨FV n - 4, by omega⟩
      rw [he] at hl
      -- way
      have go : ∀ (way : Int) (l1 : List V) (H1 : Hp), 0 ≤ way → (way < 5 ∨ (0 < n ∧ way < 8)) → PotL (f + e + 3) l1 → H1 p = some (.lst l1) → Kp p H H1 → True := fun _ _ _ _ _ _ _ _ => trivial
      refine ⟨_, rfl, _, rfl, _, _, rfl, rfl, _, rfl, ?_⟩
      refine ite2 (fun h0 => ?wa) (fun h0 => ?wb)
      case' wa =>
        refine ⟨p, 8, f + e + 3, l, rfl, hp, hl, by decide, by decide, fun way l1 H1 hw0 hw1 hl1 hp1 kp1 => ?_⟩
        have hw : way < 5 ∨ (0 < n ∧ way < 8) := .inr ⟨by have := of_decide_eq_true h0; omega, hw1⟩
      case' wb =>
        refine ⟨p, 5, f + e + 3, l, rfl, hp, hl, by decide, by decide, fun way l1 H1 hw0 hw1 hl1 hp1 kp1 => ?_⟩
        have hw : way < 5 ∨ (0 < n ∧ way < 8) := .inl hw1
      all_goals
        refine ⟨_, rfl, _, _, rfl, rfl, _, rfl, ?_⟩
        refine ite2 (fun h5 => ?_) (fun h5 => ?_)
        · -- an atom
          refine ⟨_, rfl, p, 1000, f + e + 2, l1, rfl, hp1, hl1, by decide, by decide, fun r1 l2 H2 hr0 hr1' hl2 hp2 kp2 => ?_⟩
          refine ⟨_, _, rfl, rfl, _, rfl, p, 999999999999999999, f + e + 1, l2, rfl, hp2, hl2, by decide, by decide, fun r2 l3 H3 hs0 hs1 hl3 hp3 kp3 => ?_⟩
          refine ⟨(by show 2 ≤ sizeLine; decide), fun q hq => ?_⟩
          have npq : p ≠ q := ne_of_none hp3 hq
          refine ⟨_, rfl, _, rfl, (by show 7 ≤ sizeLine; decide), fun q2 hq2 => ?_⟩
          have nqq : q ≠ q2 := fun z => by rw [← z, upd_same] at hq2; cases hq2
          refine ⟨q, q2, _, _, rfl, rfl, (by rw [upd_ne nqq]; exact upd_same), upd_same, (by show 9 ≤ sizeLine; decide), fun q3 hq3 => ?_⟩
          have h32 : H3 q2 = none := by rw [upd_ne nqq.symm] at hq2; exact hq2
          have npq2 : p ≠ q2 := ne_of_none hp3 h32
          have npq3 : p ≠ q3 := fun z => by rw [← z, upd_ne npq2, upd_ne npq, hp3] at hq3; cases hq3
          have k3 : Kp p H3 (upd (upd (upd H3 q (.lst [V.int (r1 - 500), V.int r2])) q2 (.lst [V.str "", V.str "a", V.str "class a", V.bl true, V.bl false, V.non, V.int 0])) q3 (.lst [V.int (r1 - 500), V.int r2, V.str "", V.str "a", V.str "class a", V.bl true, V.bl false, V.non, V.int 0])) :=
            (((Kp.refl p H3).new hq).new hq2).new hq3
          refine ⟨p, q3, f + e, l3, _, rfl, (by rw [upd_ne npq3, upd_ne npq2, upd_ne npq]; exact hp3), hl3, upd_same, npq3.symm, (by show 0 < 9; decide), (by show 9 ≤ 1000000; decide), fun x l4 H4 hx hl4 hp4 kp4 => ?_⟩
          obtain ⟨D, hD, hS⟩ := sh_atom (H := Hx H H4) (a := r1 - 500) (b := r2) (by omega) (by omega) hx n
          exact k x D l4 H4 hD hS (hl4.mono (by omega)) hp4 (((kp1.trans kp2).trans kp3).trans (k3.trans kp4))
        · -- a row of values
          have hn0 : 0 < n := by
            rcases hw with z | z
            · exact absurd (decide_eq_true z) h5
            · exact z.1
          obtain ⟨m, rfl⟩ : ∃ m, n = m + 1 := ⟨n - 1, by omega⟩
          have hFm : FV (m + 1) = 5 * FV m := by
            unfold FV
            rw [Nat.pow_succ]
            omega
          have hFm4 : 4 ≤ FV m := by
            unfold FV
            have : 0 < 5 ^ m := Nat.pow_pos (by decide)
            omega
          refine ⟨_, rfl, p, 4, f + e + 2, l1, rfl, hp1, hl1, by decide, by decide, fun r l2 H2 hr0 hr4 hl2 hp2 kp2 => ?_⟩
          refine ⟨r, rfl, by omega, by omega, fun Dd hD => ?_⟩
          have npD : p ≠ Dd := ne_of_none hp2 hD
          refine lc_range (lo := 0) (n := r.toNat) (fun i H' => ∃ (acc : List V) (ds : List PyData) (l' : List V), H' Dd = some (.lst acc) ∧ RvL (Hx (upd H2 Dd (.lst [])) H') acc ds ∧ (∀ d ∈ ds, Sh d (BV m) (2 * m)) ∧ acc.length = i ∧
            PotL (f + (r.toNat - i) * FV m) l' ∧ H' p = some (.lst l') ∧ Kp p H2 (delH H' Dd) ∧ Dm (upd H2 Dd (.lst [])) H')
            ⟨[], [], l2, upd_same, .nil, fun _ h => absurd h (by simp), rfl, hl2.mono ?_, (by rw [upd_ne npD]; exact hp2), ?_, Dm.refl _⟩ ?_ ?_
          · have : r.toNat ≤ 3 := by omega
            have := Nat.mul_le_mul_right (FV m) this
            rw [Nat.sub_zero]
            omega
          · intro b o hb hbo
            rw [delH_ne (ne_of_none hbo hD), upd_ne (ne_of_none hbo hD)]
            exact hbo
          · rintro i Hi hi ⟨acc, ds, l', hDi, hrv, hsh, hlen, hpl, hpi, kpi, dmi⟩
            refine ⟨rfl, ?_⟩
            have em : (((m + 1 : Nat) : Int) - 1) = (m : Int) := by omega
            have es : (r.toNat - i) * FV m = (r.toNat - (i + 1)) * FV m + FV m := by
              have : r.toNat - i = (r.toNat - (i + 1)) + 1 := by omega
              rw [this, Nat.add_mul, Nat.one_mul]
            refine ⟨_, rfl, _, rfl, _, _, rfl, rfl, p, m, f + (r.toNat - (i + 1)) * FV m, l', ?_, by omega, hpi, ?_, fun v D l3 H3 hv hSv hl3 hp3 kp3 => ?_⟩
            · show [V.ref p, V.int (((m + 1 : Nat) : Int) - 1)] = _
              rw [em]
            · rw [es] at hpl
              exact hpl.mono (by omega)
            · have hD3 : H3 Dd = some (.lst acc) := kp3 Dd _ npD.symm hDi
              have dm3 : Dm (upd H2 Dd (.lst [])) H3 := dmi.trans (kp3.dm hp3)
              refine ⟨acc, hD3, ?_, acc ++ [v], ds ++ [D], l3, upd_same, ?_, ?_, ?_, hl3, ?_, ?_, dm3.trans Dm.upd⟩
              · rw [sizeLine_eq]
                omega
              · refine RvL.snoc (hv.same ?_) (hrv.same ?_)
                · refine Same.trans (Hx_sub dmi) (Hx_same fun b o hb ho => ?_)
                  have hbD : b ≠ Dd := fun z => by rw [z, upd_same] at hb; cases hb
                  rw [upd_ne hbD]
                  exact ho
                · refine Hx_same fun b o hb ho => ?_
                  have hbD : b ≠ Dd := fun z => by rw [z, upd_same] at hb; cases hb
                  have hbp : b ≠ p := fun z => by rw [z, upd_ne npD, hp2] at hb; cases hb
                  rw [upd_ne hbD]
                  exact kp3 b o hbp ho
              · intro d hd
                rcases List.mem_append.mp hd with z | z
                · exact hsh d z
                · rw [List.mem_singleton.mp z]
                  exact hSv
              · rw [List.length_append, hlen]
                rfl
              · rw [upd_ne npD]
                exact hp3
              · intro b o hb hbo
                have z := kpi b o hb hbo
                have hbD : b ≠ Dd := ne_of_none hbo hD
                rw [delH_ne hbD] at z ⊢
                rw [upd_ne hbD]
                exact kp3 b o hb z
          · rintro H3 ⟨acc, ds, l3, hD3, hrv, hsh, hlen, hpl, hp3, kp3, dm3⟩
            have hacc : acc.length ≤ 3 := by omega
            have kpH2 : Kp p H H2 := kp1.trans kp2
            have kpH3 : Kp p H H3 := fun b o hb hbo => delH_le _ _ (kp3 b o hb (kpH2 b o hb hbo))
            have dmH2 : Dm H H2 := kpH2.dm hp2
            have hDH : H Dd = none := dmH2 Dd hD
            have hrv2 : RvL (Hx H H3) acc ds := hrv.same (Hx_sub (dmH2.trans Dm.upd))
            have hBm : BV (m + 1) = 4 * BV m := by
              unfold BV
              rw [Nat.pow_succ]
              omega
            have hB2 : 200 ≤ BV m := by
              unfold BV
              have : 0 < 4 ^ m := Nat.pow_pos (by decide)
              omega
            have hdl : ds.length ≤ 3 := by rw [← hrv.length]; exact hacc
            have hsl : ShL ds (3 * (BV m + 1)) (2 * m) := (ShL.of hsh).mono (Nat.mul_le_mul_right _ hdl) (Nat.le_refl _)
            have hpl' : PotL f l3 := hpl.mono (by omega)
            refine ⟨_, rfl, rfl, _, rfl, ?_⟩
            refine ite2 (fun h7 => ?_) (fun h7 => ?_)
            · -- a dict
              intro q hq
              have npq : p ≠ q := ne_of_none hp3 hq
              have hqH : H q = none := kpH3.dm hp3 q hq
              refine ⟨_, rfl, upd_same, [(Sum.inr "a", .ref Dd)], rfl, (by show 1 ≤ 15; decide), ?_⟩
              have hDq : Dd ≠ q := ne_of_none hD3 hq
              have hsm : Same (Hx H H3) (Hx H (upd (upd H3 q (.dK [])) q (.dK [(Sum.inr "a", .ref Dd)]))) := Hx_same fun b o hb ho => by
                rw [upd_ne (ne_of_none ho hq), upd_ne (ne_of_none ho hq)]
                exact ho
              refine k _ (.dict [(.str "a", .list ds)]) l3 _ (.dK (kvs := [(Sum.inr "a", .ref Dd)]) ?_ rfl (.cons (.lst (xs := acc) ?_ (hrv2.same hsm)) .nil)) ?_ hpl' ?_ ?_
              · rw [Hx_none hqH]
                exact upd_same
              · rw [Hx_none hDH, upd_ne hDq, upd_ne hDq]
                exact hD3
              · refine (Sh.dict1 (k := .str "a") (v := .list ds) (j := 1) (n := 3 * (BV m + 1)) (m := 2 * m + 1) (Sh.str (by decide +kernel) (by decide +kernel)) (Sh.list hsl)).mono ?_ ?_ <;> omega
              · rw [upd_ne npq, upd_ne npq]
                exact hp3
              · exact fun b o hb hbo => by
                  have z := kpH3 b o hb hbo
                  rw [upd_ne (ne_of_none z hq), upd_ne (ne_of_none z hq)]
                  exact z
            · refine ⟨_, rfl, rfl, _, rfl, ?_⟩
              refine ite2 (fun h6 => ?_) (fun h6 => ?_)
              · -- a tuple
                refine ⟨_, rfl, Dd, acc, rfl, .inl ⟨SqL.of hD3, fun q hq => ?_⟩⟩
                have npq : p ≠ q := ne_of_none hp3 hq
                have hqH : H q = none := kpH3.dm hp3 q hq
                have hsm : Same (Hx H H3) (Hx H (upd H3 q (.tup acc))) := Hx_same fun b o hb ho => by
                  rw [upd_ne (ne_of_none ho hq)]
                  exact ho
                refine k _ (.tuple ds) l3 _ (.tup (xs := acc) ?_ (hrv2.same hsm)) ((Sh.tuple hsl).mono ?_ ?_) hpl' ?_ (kpH3.new hq)
                · rw [Hx_none hqH]
                  exact upd_same
                · omega
                · omega
                · rw [upd_ne npq]
                  exact hp3
              · -- a list
                refine ⟨_, rfl, ?_⟩
                refine k _ (.list ds) l3 _ (.lst (xs := acc) ?_ hrv2) ((Sh.list hsl).mono ?_ ?_) hpl' hp3 kpH3
                · rw [Hx_none hDH]
                  exact hD3
                · omega
                · omega
end
end K14
set_option maxHeartbeats 4000000
namespace K14
open PySem PySem.Spec PyProof.Rows L2 SL
/-- what the written part says of the errors' classes: c j the j-th one below D -/
structure CT (P : Program) (K : PySem.W.Frag) (mg : Str → Option Value) (c : Nat → Addr) (D fI : Addr) (fd : FuncData) : Prop where
  ini : IniT P K D fI fd
  dfl : fd.defaults = .none
  sup : mg "super" = none
  er : ∀ j, j < 26 → ErrC K D fI (c j)
  erD : ErrC K D fI D
  kit : ∀ i j, i < 26 → j < 26 → PySem.W.kitOne K (.ref (c i)) (.ref (c j)) = some (decide (c i = c j))
  kitD : ∀ j, j < 26 → PySem.W.kitOne K (.ref D) (.ref (c j)) = some (decide (D = c j))
  kitL : ∀ i, i < 26 → PySem.W.kitOne K (.ref (c i)) (.ref D) = some true
  kitV : ∀ i, i < 26 → PySem.W.kitOne K (.ref (c i)) (.type "ValueError") = some true
  kitDV : PySem.W.kitOne K (.ref D) (.type "ValueError") = some true
  nd : ∀ i j, i < 26 → j < 26 → c i = c j → i = j
  nD : ∀ j, j < 26 → D ≠ c j
  mD : mg "LabelError" = some (.ref D)
  m0 : mg "BadStyle" = some (.ref (c 0))
  m1 : mg "NoClass" = some (.ref (c 1))
  m2 : mg "BadZoom" = some (.ref (c 2))
  m3 : mg "BadLabels" = some (.ref (c 3))
  m4 : mg "NoLabel" = some (.ref (c 4))
  m5 : mg "OtherStyle" = some (.ref (c 5))
  m6 : mg "BadBytes" = some (.ref (c 6))
  m7 : mg "BadLine" = some (.ref (c 7))
  m8 : mg "Unlike" = some (.ref (c 8))
  m9 : mg "BadZooms" = some (.ref (c 9))
  m10 : mg "BadLabel" = some (.ref (c 10))
  m11 : mg "BadTile" = some (.ref (c 11))
  m12 : mg "BadTiles" = some (.ref (c 12))
  m13 : mg "BadStrip" = some (.ref (c 13))
  m14 : mg "TooMany" = some (.ref (c 14))
  m15 : mg "BadChange" = some (.ref (c 15))
  m16 : mg "BadOffers" = some (.ref (c 16))
  m17 : mg "BadWish" = some (.ref (c 17))
  m18 : mg "BadSeen" = some (.ref (c 18))
  m19 : mg "Unseen" = some (.ref (c 19))
  m20 : mg "BadPlace" = some (.ref (c 20))
  m21 : mg "BadWeight" = some (.ref (c 21))
  m22 : mg "NoTrial" = some (.ref (c 22))
  m23 : mg "NothingToUndo" = some (.ref (c 23))
  m24 : mg "NothingToRedo" = some (.ref (c 24))
  m25 : mg "BadJournal" = some (.ref (c 25))
/-- a row of one of each error with the value -/
def spMade (c : Nat → Addr) : Sp := fun vs H Q _ => ∃ v : V, vs = [v] ∧ ∀ (L : Addr) (as : List Addr) (H' : Hp), H L = none → MadeTo c v H H' L as 26 → Q (.ref L) H'
/-- of which classes an error is: C its own -/
def spKinds (K : PySem.W.Frag) (c : Nat → Addr) (D fI : Addr) : Sp := fun vs H Q _ => ∃ (a C : Addr) (v : V), vs = [.ref a] ∧ ErrC K D fI C ∧ ErrAt H a C v ∧ (∀ j, j < 26 → PySem.W.kitOne K (.ref C) (.ref (c j)) = some (decide (C = c j))) ∧
  ∀ (L : Addr) (H' : Hp), H L = none → H' L = some (.lst (((List.range 26).map fun j => decide (C = c j)).map V.bl)) → Kp L H H' → Q (.ref L) H'
section
variable {P : Program} {w : World} {K : PySem.W.Frag} {mg : Str → Option Value} {base : Heap} {f : Addr} {fd fdI : FuncData} {c : Nat → Addr} {D fI : Addr}
theorem scMade : FnScope ["_law_thing", "_law_found"] ["_law_thing"] (defScope sMade) := ⟨rfl, rfl, rfl, by decide +kernel, rfl, by decide +kernel, by decide +kernel⟩
theorem ok_made (F : FnP K "_law_made" sMade f fd) (T : CT P K mg c D fI fdI) : FnOk P w K mg base CX0 3 f fd ["_law_thing"] (spMade c) := by
  have bI : Binds K fdI ["self", "value"] [] := T.ini.binds T.dfl
  refine F.ok scMade (fun vs H Q E h => ?_) (fun cdv A outer s H vs Q E hr h => ?_)
  · obtain ⟨v, rfl, _⟩ := h
    rfl
  · obtain ⟨v, rfl, k⟩ := h
    have h2 : 2 ≤ 2 := by decide
    refine ⟨_, PSs.nox (pss_cons (ps_set (i := 1) scMade.nd rfl (Or.inl rfl) (pe_lst pa_nil))
      (pss_cons (ps_expr (pe_bm PySem.F.plainAttrs_list PySem.F.slot_list_extend PySem.F.type_list_extend mt_extend (pv 1) (pa_cons (pe_lst (pa_cons (pe_err T.ini T.sup (T.er 0 (by decide)) bI hr h2 rfl T.m0 (pv 0)) (pa_cons (pe_err T.ini T.sup (T.er 1 (by decide)) bI hr h2 rfl T.m1 (pv 0)) (pa_cons (pe_err T.ini T.sup (T.er 2 (by decide)) bI hr h2 rfl T.m2 (pv 0)) pa_nil)))) pa_nil)))
      (pss_cons (ps_expr (pe_bm PySem.F.plainAttrs_list PySem.F.slot_list_extend PySem.F.type_list_extend mt_extend (pv 1) (pa_cons (pe_lst (pa_cons (pe_err T.ini T.sup (T.er 3 (by decide)) bI hr h2 rfl T.m3 (pv 0)) (pa_cons (pe_err T.ini T.sup (T.er 4 (by decide)) bI hr h2 rfl T.m4 (pv 0)) (pa_cons (pe_err T.ini T.sup (T.er 5 (by decide)) bI hr h2 rfl T.m5 (pv 0)) pa_nil)))) pa_nil)))
      (pss_cons (ps_expr (pe_bm PySem.F.plainAttrs_list PySem.F.slot_list_extend PySem.F.type_list_extend mt_extend (pv 1) (pa_cons (pe_lst (pa_cons (pe_err T.ini T.sup (T.er 6 (by decide)) bI hr h2 rfl T.m6 (pv 0)) (pa_cons (pe_err T.ini T.sup (T.er 7 (by decide)) bI hr h2 rfl T.m7 (pv 0)) (pa_cons (pe_err T.ini T.sup (T.er 8 (by decide)) bI hr h2 rfl T.m8 (pv 0)) pa_nil)))) pa_nil)))
      (pss_cons (ps_expr (pe_bm PySem.F.plainAttrs_list PySem.F.slot_list_extend PySem.F.type_list_extend mt_extend (pv 1) (pa_cons (pe_lst (pa_cons (pe_err T.ini T.sup (T.er 9 (by decide)) bI hr h2 rfl T.m9 (pv 0)) (pa_cons (pe_err T.ini T.sup (T.er 10 (by decide)) bI hr h2 rfl T.m10 (pv 0)) (pa_cons (pe_err T.ini T.sup (T.er 11 (by decide)) bI hr h2 rfl T.m11 (pv 0)) pa_nil)))) pa_nil)))
      (pss_cons (ps_expr (pe_bm PySem.F.plainAttrs_list PySem.F.slot_list_extend PySem.F.type_list_extend mt_extend (pv 1) (pa_cons (pe_lst (pa_cons (pe_err T.ini T.sup (T.er 12 (by decide)) bI hr h2 rfl T.m12 (pv 0)) (pa_cons (pe_err T.ini T.sup (T.er 13 (by decide)) bI hr h2 rfl T.m13 (pv 0)) (pa_cons (pe_err T.ini T.sup (T.er 14 (by decide)) bI hr h2 rfl T.m14 (pv 0)) pa_nil)))) pa_nil)))
      (pss_cons (ps_expr (pe_bm PySem.F.plainAttrs_list PySem.F.slot_list_extend PySem.F.type_list_extend mt_extend (pv 1) (pa_cons (pe_lst (pa_cons (pe_err T.ini T.sup (T.er 15 (by decide)) bI hr h2 rfl T.m15 (pv 0)) (pa_cons (pe_err T.ini T.sup (T.er 16 (by decide)) bI hr h2 rfl T.m16 (pv 0)) (pa_cons (pe_err T.ini T.sup (T.er 17 (by decide)) bI hr h2 rfl T.m17 (pv 0)) pa_nil)))) pa_nil)))
      (pss_cons (ps_expr (pe_bm PySem.F.plainAttrs_list PySem.F.slot_list_extend PySem.F.type_list_extend mt_extend (pv 1) (pa_cons (pe_lst (pa_cons (pe_err T.ini T.sup (T.er 18 (by decide)) bI hr h2 rfl T.m18 (pv 0)) (pa_cons (pe_err T.ini T.sup (T.er 19 (by decide)) bI hr h2 rfl T.m19 (pv 0)) (pa_cons (pe_err T.ini T.sup (T.er 20 (by decide)) bI hr h2 rfl T.m20 (pv 0)) pa_nil)))) pa_nil)))
      (pss_cons (ps_expr (pe_bm PySem.F.plainAttrs_list PySem.F.slot_list_extend PySem.F.type_list_extend mt_extend (pv 1) (pa_cons (pe_lst (pa_cons (pe_err T.ini T.sup (T.er 21 (by decide)) bI hr h2 rfl T.m21 (pv 0)) (pa_cons (pe_err T.ini T.sup (T.er 22 (by decide)) bI hr h2 rfl T.m22 (pv 0)) (pa_cons (pe_err T.ini T.sup (T.er 23 (by decide)) bI hr h2 rfl T.m23 (pv 0)) pa_nil)))) pa_nil)))
      (pss_cons (ps_expr (pe_bm PySem.F.plainAttrs_list PySem.F.slot_list_extend PySem.F.type_list_extend mt_extend (pv 1) (pa_cons (pe_lst (pa_cons (pe_err T.ini T.sup (T.er 24 (by decide)) bI hr h2 rfl T.m24 (pv 0)) (pa_cons (pe_err T.ini T.sup (T.er 25 (by decide)) bI hr h2 rfl T.m25 (pv 0)) pa_nil))) pa_nil)))
      (pss_one (ps_ret (pv 1))))))))))))), ?_⟩
    refine ⟨(by show 0 ≤ sizeLine; decide), fun L hL => ?_⟩
    have M0 : MadeTo c v H (upd H L (.lst [])) L [] 0 := ⟨upd_same, rfl, fun i a h => by simp at h, Kp.upd⟩
    refine ext_read (K := K) (Cs := [c 0, c 1, c 2]) (m := 3) rfl rfl M0 rfl (by decide) fun as1 H1 M1 => ?_
    refine ext_read (K := K) (Cs := [c 3, c 4, c 5]) (m := 3) rfl rfl M1 rfl (by decide) fun as2 H2 M2 => ?_
    refine ext_read (K := K) (Cs := [c 6, c 7, c 8]) (m := 3) rfl rfl M2 rfl (by decide) fun as3 H3 M3 => ?_
    refine ext_read (K := K) (Cs := [c 9, c 10, c 11]) (m := 3) rfl rfl M3 rfl (by decide) fun as4 H4 M4 => ?_
    refine ext_read (K := K) (Cs := [c 12, c 13, c 14]) (m := 3) rfl rfl M4 rfl (by decide) fun as5 H5 M5 => ?_
    refine ext_read (K := K) (Cs := [c 15, c 16, c 17]) (m := 3) rfl rfl M5 rfl (by decide) fun as6 H6 M6 => ?_
    refine ext_read (K := K) (Cs := [c 18, c 19, c 20]) (m := 3) rfl rfl M6 rfl (by decide) fun as7 H7 M7 => ?_
    refine ext_read (K := K) (Cs := [c 21, c 22, c 23]) (m := 3) rfl rfl M7 rfl (by decide) fun as8 H8 M8 => ?_
    refine ext_read (K := K) (Cs := [c 24, c 25]) (m := 2) rfl rfl M8 rfl (by decide) fun as9 H9 M9 => ?_
    exact ⟨_, rfl, k L as9 H9 hL M9⟩
theorem scNamed : FnScope ["_law_thing", "_law_found"] ["_law_thing"] (defScope sNamed) := ⟨rfl, rfl, rfl, by decide +kernel, rfl, by decide +kernel, by decide +kernel⟩
theorem ok_named (F : FnP K "_law_named" sNamed f fd) (T : CT P K mg c D fI fdI) : FnOk P w K mg base CX0 3 f fd ["_law_thing"] (spMade c) := by
  have bI : Binds K fdI ["self", "value"] [] := T.ini.binds T.dfl
  refine F.ok scNamed (fun vs H Q E h => ?_) (fun cdv A outer s H vs Q E hr h => ?_)
  · obtain ⟨v, rfl, _⟩ := h
    rfl
  · obtain ⟨v, rfl, k⟩ := h
    have h2 : 2 ≤ 2 := by decide
    refine ⟨_, PSs.nox (pss_cons (ps_set (i := 1) scNamed.nd rfl (Or.inl rfl) (pe_lst pa_nil))
      (pss_cons (ps_expr (pe_bm PySem.F.plainAttrs_list PySem.F.slot_list_extend PySem.F.type_list_extend mt_extend (pv 1) (pa_cons (pe_lst (pa_cons (pe_errK T.ini T.dfl T.sup (T.er 0 (by decide)) hr h2 rfl T.m0 (pv 0)) (pa_cons (pe_errK T.ini T.dfl T.sup (T.er 1 (by decide)) hr h2 rfl T.m1 (pv 0)) (pa_cons (pe_errK T.ini T.dfl T.sup (T.er 2 (by decide)) hr h2 rfl T.m2 (pv 0)) pa_nil)))) pa_nil)))
      (pss_cons (ps_expr (pe_bm PySem.F.plainAttrs_list PySem.F.slot_list_extend PySem.F.type_list_extend mt_extend (pv 1) (pa_cons (pe_lst (pa_cons (pe_errK T.ini T.dfl T.sup (T.er 3 (by decide)) hr h2 rfl T.m3 (pv 0)) (pa_cons (pe_errK T.ini T.dfl T.sup (T.er 4 (by decide)) hr h2 rfl T.m4 (pv 0)) (pa_cons (pe_errK T.ini T.dfl T.sup (T.er 5 (by decide)) hr h2 rfl T.m5 (pv 0)) pa_nil)))) pa_nil)))
      (pss_cons (ps_expr (pe_bm PySem.F.plainAttrs_list PySem.F.slot_list_extend PySem.F.type_list_extend mt_extend (pv 1) (pa_cons (pe_lst (pa_cons (pe_errK T.ini T.dfl T.sup (T.er 6 (by decide)) hr h2 rfl T.m6 (pv 0)) (pa_cons (pe_errK T.ini T.dfl T.sup (T.er 7 (by decide)) hr h2 rfl T.m7 (pv 0)) (pa_cons (pe_errK T.ini T.dfl T.sup (T.er 8 (by decide)) hr h2 rfl T.m8 (pv 0)) pa_nil)))) pa_nil)))
      (pss_cons (ps_expr (pe_bm PySem.F.plainAttrs_list PySem.F.slot_list_extend PySem.F.type_list_extend mt_extend (pv 1) (pa_cons (pe_lst (pa_cons (pe_errK T.ini T.dfl T.sup (T.er 9 (by decide)) hr h2 rfl T.m9 (pv 0)) (pa_cons (pe_errK T.ini T.dfl T.sup (T.er 10 (by decide)) hr h2 rfl T.m10 (pv 0)) (pa_cons (pe_errK T.ini T.dfl T.sup (T.er 11 (by decide)) hr h2 rfl T.m11 (pv 0)) pa_nil)))) pa_nil)))
      (pss_cons (ps_expr (pe_bm PySem.F.plainAttrs_list PySem.F.slot_list_extend PySem.F.type_list_extend mt_extend (pv 1) (pa_cons (pe_lst (pa_cons (pe_errK T.ini T.dfl T.sup (T.er 12 (by decide)) hr h2 rfl T.m12 (pv 0)) (pa_cons (pe_errK T.ini T.dfl T.sup (T.er 13 (by decide)) hr h2 rfl T.m13 (pv 0)) (pa_cons (pe_errK T.ini T.dfl T.sup (T.er 14 (by decide)) hr h2 rfl T.m14 (pv 0)) pa_nil)))) pa_nil)))
      (pss_cons (ps_expr (pe_bm PySem.F.plainAttrs_list PySem.F.slot_list_extend PySem.F.type_list_extend mt_extend (pv 1) (pa_cons (pe_lst (pa_cons (pe_errK T.ini T.dfl T.sup (T.er 15 (by decide)) hr h2 rfl T.m15 (pv 0)) (pa_cons (pe_errK T.ini T.dfl T.sup (T.er 16 (by decide)) hr h2 rfl T.m16 (pv 0)) (pa_cons (pe_errK T.ini T.dfl T.sup (T.er 17 (by decide)) hr h2 rfl T.m17 (pv 0)) pa_nil)))) pa_nil)))
      (pss_cons (ps_expr (pe_bm PySem.F.plainAttrs_list PySem.F.slot_list_extend PySem.F.type_list_extend mt_extend (pv 1) (pa_cons (pe_lst (pa_cons (pe_errK T.ini T.dfl T.sup (T.er 18 (by decide)) hr h2 rfl T.m18 (pv 0)) (pa_cons (pe_errK T.ini T.dfl T.sup (T.er 19 (by decide)) hr h2 rfl T.m19 (pv 0)) (pa_cons (pe_errK T.ini T.dfl T.sup (T.er 20 (by decide)) hr h2 rfl T.m20 (pv 0)) pa_nil)))) pa_nil)))
      (pss_cons (ps_expr (pe_bm PySem.F.plainAttrs_list PySem.F.slot_list_extend PySem.F.type_list_extend mt_extend (pv 1) (pa_cons (pe_lst (pa_cons (pe_errK T.ini T.dfl T.sup (T.er 21 (by decide)) hr h2 rfl T.m21 (pv 0)) (pa_cons (pe_errK T.ini T.dfl T.sup (T.er 22 (by decide)) hr h2 rfl T.m22 (pv 0)) (pa_cons (pe_errK T.ini T.dfl T.sup (T.er 23 (by decide)) hr h2 rfl T.m23 (pv 0)) pa_nil)))) pa_nil)))
      (pss_cons (ps_expr (pe_bm PySem.F.plainAttrs_list PySem.F.slot_list_extend PySem.F.type_list_extend mt_extend (pv 1) (pa_cons (pe_lst (pa_cons (pe_errK T.ini T.dfl T.sup (T.er 24 (by decide)) hr h2 rfl T.m24 (pv 0)) (pa_cons (pe_errK T.ini T.dfl T.sup (T.er 25 (by decide)) hr h2 rfl T.m25 (pv 0)) pa_nil))) pa_nil)))
      (pss_one (ps_ret (pv 1))))))))))))), ?_⟩
    refine ⟨(by show 0 ≤ sizeLine; decide), fun L hL => ?_⟩
    have M0 : MadeTo c v H (upd H L (.lst [])) L [] 0 := ⟨upd_same, rfl, fun i a h => by simp at h, Kp.upd⟩
    refine ext_read (K := K) (Cs := [c 0, c 1, c 2]) (m := 3) rfl rfl M0 rfl (by decide) fun as1 H1 M1 => ?_
    refine ext_read (K := K) (Cs := [c 3, c 4, c 5]) (m := 3) rfl rfl M1 rfl (by decide) fun as2 H2 M2 => ?_
    refine ext_read (K := K) (Cs := [c 6, c 7, c 8]) (m := 3) rfl rfl M2 rfl (by decide) fun as3 H3 M3 => ?_
    refine ext_read (K := K) (Cs := [c 9, c 10, c 11]) (m := 3) rfl rfl M3 rfl (by decide) fun as4 H4 M4 => ?_
    refine ext_read (K := K) (Cs := [c 12, c 13, c 14]) (m := 3) rfl rfl M4 rfl (by decide) fun as5 H5 M5 => ?_
    refine ext_read (K := K) (Cs := [c 15, c 16, c 17]) (m := 3) rfl rfl M5 rfl (by decide) fun as6 H6 M6 => ?_
    refine ext_read (K := K) (Cs := [c 18, c 19, c 20]) (m := 3) rfl rfl M6 rfl (by decide) fun as7 H7 M7 => ?_
    refine ext_read (K := K) (Cs := [c 21, c 22, c 23]) (m := 3) rfl rfl M7 rfl (by decide) fun as8 H8 M8 => ?_
    refine ext_read (K := K) (Cs := [c 24, c 25]) (m := 2) rfl rfl M8 rfl (by decide) fun as9 H9 M9 => ?_
    exact ⟨_, rfl, k L as9 H9 hL M9⟩
theorem scKinds : FnScope ["_law_error", "_law_found"] ["_law_error"] (defScope sKinds) := ⟨rfl, rfl, rfl, by decide +kernel, rfl, by decide +kernel, by decide +kernel⟩
/-- one row of looks is put behind -/
theorem isx_read {C a : Addr} {v : V} {H : Hp} {L : Addr} {n m : Nat} {σ : L2.St} {E0 : Ends} {Cs : List Addr} (h0 : σ[0]? = some (some (.ref a))) (h1 : σ[1]? = some (some (.ref L))) (T : ErrC K D fI C) (he : ErrAt H a C v)
    (hL : H L = some (.lst (((List.range n).map fun j => decide (C = c j)).map V.bl))) (hCs : Cs = (List.range m).map fun j => c (n + j)) (hm : n + m ≤ 26) (hk : ∀ j, j < 26 → PySem.W.kitOne K (.ref C) (.ref (c j)) = some (decide (C = c j)))
    (k : ∀ H', Kp L H H' → H' L = some (.lst (((List.range (n + m)).map fun j => decide (C = c j)).map V.bl)) → E0.nx σ H') :
    tDrop (tBM K "list" rExtend (tVar 1) (tCons (tLst (tIss K D fI Cs)) tNil)) E0 σ H := by
  have hlen : Cs.length = m := by rw [hCs, List.length_map, List.length_range]
  refine ⟨_, h1, .inl ⟨rfl, _, SqL.of hL⟩, ?_⟩
  refine iss_read h0 T he Cs _ (fun C' hC => ?_) ?_
  · rw [hCs] at hC
    obtain ⟨j, hj, rfl⟩ := List.mem_map.mp hC
    exact hk _ (by have := List.mem_range.mp hj; omega)
  · refine ⟨?_, fun q hq => ?_⟩
    · rw [List.length_map, sizeLine_eq]
      omega
    · have nLq : L ≠ q := ne_of_none hL hq
      refine ⟨L, q, _, _, rfl, rfl, (by rw [upd_ne nLq]; exact hL), upd_same, ?_, ?_⟩
      · rw [List.length_map, List.length_map, List.length_map, List.length_range, sizeLine_eq]
        omega
      · refine k _ (fun b o hb ho => ?_) ?_
        · rw [upd_ne hb, upd_ne (ne_of_none ho hq)]
          exact ho
        · rw [upd_same, hCs]
          congr 2
          rw [List.range_add, List.map_append, List.map_append, List.map_map, List.map_map, List.map_map, List.map_map]
          rfl
theorem ok_kinds (F : FnP K "_law_kinds" sKinds f fd) (T : CT P K mg c D fI fdI) (gIsi : mg "isinstance" = none) : FnOk P w K mg base CX0 1 f fd ["_law_error"] (spKinds K c D fI) := by
  refine F.ok scKinds (fun vs H Q E h => ?_) (fun cdv A outer s H vs Q E hr h => ?_)
  · obtain ⟨a, C, v, rfl, _⟩ := h
    rfl
  · obtain ⟨a, C, v, rfl, TC, he, hk, k⟩ := h
    refine ⟨_, PSs.nox (pss_cons (ps_set (i := 1) scKinds.nd rfl (Or.inl rfl) (pe_lst pa_nil))
      (pss_cons (ps_expr (pe_bm PySem.F.plainAttrs_list PySem.F.slot_list_extend PySem.F.type_list_extend mt_extend (pv 1) (pa_cons (pe_lst (pa_cons (pe_callB (call_isErr (D := D) (fI := fI)) (by rfl) gIsi boot_isinstance (pa_cons (pv 0) (pa_cons (pe_glob (v := .ref (c 0)) rfl T.m0 rfl) pa_nil))) (pa_cons (pe_callB (call_isErr (D := D) (fI := fI)) (by rfl) gIsi boot_isinstance (pa_cons (pv 0) (pa_cons (pe_glob (v := .ref (c 1)) rfl T.m1 rfl) pa_nil))) (pa_cons (pe_callB (call_isErr (D := D) (fI := fI)) (by rfl) gIsi boot_isinstance (pa_cons (pv 0) (pa_cons (pe_glob (v := .ref (c 2)) rfl T.m2 rfl) pa_nil))) pa_nil)))) pa_nil)))
      (pss_cons (ps_expr (pe_bm PySem.F.plainAttrs_list PySem.F.slot_list_extend PySem.F.type_list_extend mt_extend (pv 1) (pa_cons (pe_lst (pa_cons (pe_callB (call_isErr (D := D) (fI := fI)) (by rfl) gIsi boot_isinstance (pa_cons (pv 0) (pa_cons (pe_glob (v := .ref (c 3)) rfl T.m3 rfl) pa_nil))) (pa_cons (pe_callB (call_isErr (D := D) (fI := fI)) (by rfl) gIsi boot_isinstance (pa_cons (pv 0) (pa_cons (pe_glob (v := .ref (c 4)) rfl T.m4 rfl) pa_nil))) (pa_cons (pe_callB (call_isErr (D := D) (fI := fI)) (by rfl) gIsi boot_isinstance (pa_cons (pv 0) (pa_cons (pe_glob (v := .ref (c 5)) rfl T.m5 rfl) pa_nil))) pa_nil)))) pa_nil)))
      (pss_cons (ps_expr (pe_bm PySem.F.plainAttrs_list PySem.F.slot_list_extend PySem.F.type_list_extend mt_extend (pv 1) (pa_cons (pe_lst (pa_cons (pe_callB (call_isErr (D := D) (fI := fI)) (by rfl) gIsi boot_isinstance (pa_cons (pv 0) (pa_cons (pe_glob (v := .ref (c 6)) rfl T.m6 rfl) pa_nil))) (pa_cons (pe_callB (call_isErr (D := D) (fI := fI)) (by rfl) gIsi boot_isinstance (pa_cons (pv 0) (pa_cons (pe_glob (v := .ref (c 7)) rfl T.m7 rfl) pa_nil))) (pa_cons (pe_callB (call_isErr (D := D) (fI := fI)) (by rfl) gIsi boot_isinstance (pa_cons (pv 0) (pa_cons (pe_glob (v := .ref (c 8)) rfl T.m8 rfl) pa_nil))) pa_nil)))) pa_nil)))
      (pss_cons (ps_expr (pe_bm PySem.F.plainAttrs_list PySem.F.slot_list_extend PySem.F.type_list_extend mt_extend (pv 1) (pa_cons (pe_lst (pa_cons (pe_callB (call_isErr (D := D) (fI := fI)) (by rfl) gIsi boot_isinstance (pa_cons (pv 0) (pa_cons (pe_glob (v := .ref (c 9)) rfl T.m9 rfl) pa_nil))) (pa_cons (pe_callB (call_isErr (D := D) (fI := fI)) (by rfl) gIsi boot_isinstance (pa_cons (pv 0) (pa_cons (pe_glob (v := .ref (c 10)) rfl T.m10 rfl) pa_nil))) (pa_cons (pe_callB (call_isErr (D := D) (fI := fI)) (by rfl) gIsi boot_isinstance (pa_cons (pv 0) (pa_cons (pe_glob (v := .ref (c 11)) rfl T.m11 rfl) pa_nil))) pa_nil)))) pa_nil)))
      (pss_cons (ps_expr (pe_bm PySem.F.plainAttrs_list PySem.F.slot_list_extend PySem.F.type_list_extend mt_extend (pv 1) (pa_cons (pe_lst (pa_cons (pe_callB (call_isErr (D := D) (fI := fI)) (by rfl) gIsi boot_isinstance (pa_cons (pv 0) (pa_cons (pe_glob (v := .ref (c 12)) rfl T.m12 rfl) pa_nil))) (pa_cons (pe_callB (call_isErr (D := D) (fI := fI)) (by rfl) gIsi boot_isinstance (pa_cons (pv 0) (pa_cons (pe_glob (v := .ref (c 13)) rfl T.m13 rfl) pa_nil))) (pa_cons (pe_callB (call_isErr (D := D) (fI := fI)) (by rfl) gIsi boot_isinstance (pa_cons (pv 0) (pa_cons (pe_glob (v := .ref (c 14)) rfl T.m14 rfl) pa_nil))) pa_nil)))) pa_nil)))
      (pss_cons (ps_expr (pe_bm PySem.F.plainAttrs_list PySem.F.slot_list_extend PySem.F.type_list_extend mt_extend (pv 1) (pa_cons (pe_lst (pa_cons (pe_callB (call_isErr (D := D) (fI := fI)) (by rfl) gIsi boot_isinstance (pa_cons (pv 0) (pa_cons (pe_glob (v := .ref (c 15)) rfl T.m15 rfl) pa_nil))) (pa_cons (pe_callB (call_isErr (D := D) (fI := fI)) (by rfl) gIsi boot_isinstance (pa_cons (pv 0) (pa_cons (pe_glob (v := .ref (c 16)) rfl T.m16 rfl) pa_nil))) (pa_cons (pe_callB (call_isErr (D := D) (fI := fI)) (by rfl) gIsi boot_isinstance (pa_cons (pv 0) (pa_cons (pe_glob (v := .ref (c 17)) rfl T.m17 rfl) pa_nil))) pa_nil)))) pa_nil)))
      (pss_cons (ps_expr (pe_bm PySem.F.plainAttrs_list PySem.F.slot_list_extend PySem.F.type_list_extend mt_extend (pv 1) (pa_cons (pe_lst (pa_cons (pe_callB (call_isErr (D := D) (fI := fI)) (by rfl) gIsi boot_isinstance (pa_cons (pv 0) (pa_cons (pe_glob (v := .ref (c 18)) rfl T.m18 rfl) pa_nil))) (pa_cons (pe_callB (call_isErr (D := D) (fI := fI)) (by rfl) gIsi boot_isinstance (pa_cons (pv 0) (pa_cons (pe_glob (v := .ref (c 19)) rfl T.m19 rfl) pa_nil))) (pa_cons (pe_callB (call_isErr (D := D) (fI := fI)) (by rfl) gIsi boot_isinstance (pa_cons (pv 0) (pa_cons (pe_glob (v := .ref (c 20)) rfl T.m20 rfl) pa_nil))) pa_nil)))) pa_nil)))
      (pss_cons (ps_expr (pe_bm PySem.F.plainAttrs_list PySem.F.slot_list_extend PySem.F.type_list_extend mt_extend (pv 1) (pa_cons (pe_lst (pa_cons (pe_callB (call_isErr (D := D) (fI := fI)) (by rfl) gIsi boot_isinstance (pa_cons (pv 0) (pa_cons (pe_glob (v := .ref (c 21)) rfl T.m21 rfl) pa_nil))) (pa_cons (pe_callB (call_isErr (D := D) (fI := fI)) (by rfl) gIsi boot_isinstance (pa_cons (pv 0) (pa_cons (pe_glob (v := .ref (c 22)) rfl T.m22 rfl) pa_nil))) (pa_cons (pe_callB (call_isErr (D := D) (fI := fI)) (by rfl) gIsi boot_isinstance (pa_cons (pv 0) (pa_cons (pe_glob (v := .ref (c 23)) rfl T.m23 rfl) pa_nil))) pa_nil)))) pa_nil)))
      (pss_cons (ps_expr (pe_bm PySem.F.plainAttrs_list PySem.F.slot_list_extend PySem.F.type_list_extend mt_extend (pv 1) (pa_cons (pe_lst (pa_cons (pe_callB (call_isErr (D := D) (fI := fI)) (by rfl) gIsi boot_isinstance (pa_cons (pv 0) (pa_cons (pe_glob (v := .ref (c 24)) rfl T.m24 rfl) pa_nil))) (pa_cons (pe_callB (call_isErr (D := D) (fI := fI)) (by rfl) gIsi boot_isinstance (pa_cons (pv 0) (pa_cons (pe_glob (v := .ref (c 25)) rfl T.m25 rfl) pa_nil))) pa_nil))) pa_nil)))
      (pss_one (ps_ret (pv 1))))))))))))), ?_⟩
    refine ⟨(by show 0 ≤ sizeLine; decide), fun L hL => ?_⟩
    have k0 : Kp L H (upd H L (.lst [])) := Kp.upd
    have l0 : upd H L (.lst []) L = some (.lst (((List.range 0).map fun j => decide (C = c j)).map V.bl)) := upd_same
    have e0 : ErrAt (upd H L (.lst [])) a C v := he.same (same_new hL)
    refine isx_read (n := 0) (m := 3) (Cs := [c 0, c 1, c 2]) rfl rfl TC e0 l0 rfl (by decide) hk fun H1 kk1 l1 => ?_
    have k1 := k0.trans kk1
    have e1 := e0.kp l0 kk1
    refine isx_read (n := 3) (m := 3) (Cs := [c 3, c 4, c 5]) rfl rfl TC e1 l1 rfl (by decide) hk fun H2 kk2 l2 => ?_
    have k2 := k1.trans kk2
    have e2 := e1.kp l1 kk2
    refine isx_read (n := 6) (m := 3) (Cs := [c 6, c 7, c 8]) rfl rfl TC e2 l2 rfl (by decide) hk fun H3 kk3 l3 => ?_
    have k3 := k2.trans kk3
    have e3 := e2.kp l2 kk3
    refine isx_read (n := 9) (m := 3) (Cs := [c 9, c 10, c 11]) rfl rfl TC e3 l3 rfl (by decide) hk fun H4 kk4 l4 => ?_
    have k4 := k3.trans kk4
    have e4 := e3.kp l3 kk4
    refine isx_read (n := 12) (m := 3) (Cs := [c 12, c 13, c 14]) rfl rfl TC e4 l4 rfl (by decide) hk fun H5 kk5 l5 => ?_
    have k5 := k4.trans kk5
    have e5 := e4.kp l4 kk5
    refine isx_read (n := 15) (m := 3) (Cs := [c 15, c 16, c 17]) rfl rfl TC e5 l5 rfl (by decide) hk fun H6 kk6 l6 => ?_
    have k6 := k5.trans kk6
    have e6 := e5.kp l5 kk6
    refine isx_read (n := 18) (m := 3) (Cs := [c 18, c 19, c 20]) rfl rfl TC e6 l6 rfl (by decide) hk fun H7 kk7 l7 => ?_
    have k7 := k6.trans kk7
    have e7 := e6.kp l6 kk7
    refine isx_read (n := 21) (m := 3) (Cs := [c 21, c 22, c 23]) rfl rfl TC e7 l7 rfl (by decide) hk fun H8 kk8 l8 => ?_
    have k8 := k7.trans kk8
    have e8 := e7.kp l7 kk8
    refine isx_read (n := 24) (m := 2) (Cs := [c 24, c 25]) rfl rfl TC e8 l8 rfl (by decide) hk fun H9 kk9 l9 => ?_
    have k9 := k8.trans kk9
    have e9 := e8.kp l8 kk9
    exact ⟨_, rfl, k L H9 hL l9 k9⟩
end
end K14
set_option maxHeartbeats 4000000
namespace K14
open PySem PySem.Spec PyProof.Rows L2 SL
def spAll : Sp := fun vs H Q _ => ∃ (v : V) (d : PyData), vs = [v] ∧ Rv H v d ∧ Sh d 10000 30 ∧ ∀ H', Same H H' → Q (.bl true) H'
theorem boot_VE : bootBuiltins "ValueError" = some (.type "ValueError") := by decide +kernel
theorem same_of_kp {L : Addr} {H H' : Hp} (hL : H L = none) (k : Kp L H H') : Same H H' := fun b o h => k b o (ne_of_none h hL) h
theorem cnt1 : ∀ i, i < 26 → ((List.range 26).map fun j => decide (i = j)).count true = 1 := by decide
theorem cnt0 : ((List.range 26).map fun _ => false).count true = 0 := by decide
section
variable {P : Program} {w : World} {K : PySem.W.Frag} {mg : Str → Option Value} {base : Heap} {f fM fN fK : Addr} {fd fdM fdN fdK fdI : FuncData} {c : Nat → Addr} {D fI : Addr}
theorem cnt_at (T : CT P K mg c D fI fdI) {i : Nat} (hi : i < 26) : ((List.range 26).map fun j => decide (c i = c j)).count true = 1 := by
  rw [← cnt1 i hi]
  congr 1
  refine List.map_congr_left fun j hj => ?_
  have hj' := List.mem_range.mp hj
  by_cases h : i = j
  · rw [h, decide_eq_true rfl, decide_eq_true rfl]
  · rw [decide_eq_false h, decide_eq_false fun z => h (T.nd i j hi hj' z)]
theorem cnt_D (T : CT P K mg c D fI fdI) : ((List.range 26).map fun j => decide (D = c j)).count true = 0 := by
  rw [← cnt0]
  congr 1
  refine List.map_congr_left fun j hj => ?_
  rw [decide_eq_false (T.nD j (List.mem_range.mp hj))]
theorem shl2 {d : PyData} (h : Sh d 10000 30) : Sh (.list [d, d]) 390000 40 := (Sh.list (ShL.cons h (ShL.cons h (ShL.nil (n := 0))))).mono (by decide) (by decide)
abbrev nAll : List Str := ["_law_thing", "_law_base", "_law_made_here", "_law_named_here", "_law_at", "_law_error", "_law_kinds_here"]
theorem scAll : FnScope nAll ["_law_thing"] (defScope sAll) := ⟨rfl, rfl, rfl, by decide +kernel, rfl, by decide +kernel, by decide +kernel⟩
theorem ok_all (F : FnP K "_law_all_right" sAll f fd) (T : CT P K mg c D fI fdI) (FM : FnP K "_law_made" sMade fM fdM) (gMade : mg "_law_made" = some (.ref fM)) (FN : FnP K "_law_named" sNamed fN fdN) (gNamed : mg "_law_named" = some (.ref fN))
    (FK : FnP K "_law_kinds" sKinds fK fdK) (gKinds : mg "_law_kinds" = some (.ref fK)) (gIsi : mg "isinstance" = none) (gRepr : mg "repr" = none) (gEnum : mg "enumerate" = none) (gVE : mg "ValueError" = none) (hs : (K.lookup sysModules).isSome = true) :
    FnG P w K mg base CX0 4 f fd ["_law_thing"] spAll := by
  have GM : FnOk P w K mg base CX0 3 fM fdM ["_law_thing"] (spMade c) := ok_made FM T
  have bM : Binds K fdM ["_law_thing"] [] := FM.bindsN fun _ _ _ _ _ _ us hl => match us, hl with | [_], _ => rfl
  have GN : FnOk P w K mg base CX0 3 fN fdN ["_law_thing"] (spMade c) := ok_named FN T
  have bN : Binds K fdN ["_law_thing"] [] := FN.bindsN fun _ _ _ _ _ _ us hl => match us, hl with | [_], _ => rfl
  have GK : FnOk P w K mg base CX0 1 fK fdK ["_law_error"] (spKinds K c D fI) := ok_kinds FK T gIsi
  have bK : Binds K fdK ["_law_error"] [] := FK.bindsN fun _ _ _ _ _ _ us hl => match us, hl with | [_], _ => rfl
  have bI : Binds K fdI ["self", "value"] [] := T.ini.binds T.dfl
  refine funD_okG (k := 3) F scAll (fun vs H Q E h => ?_) (fun cdv A outer s H vs Q E hg hr h => ?_)
  · obtain ⟨v, d, rfl, _⟩ := h
    rfl
  · obtain ⟨v, d, rfl, rv, sh, k⟩ := h
    have hr3 : Room 3 _ := hr
    have hr1 : Room 1 _ := hr.mono (by decide)
    have h2 : 2 ≤ 3 := by decide
    refine ⟨_, PSs.nox (pss_cons (ps_par (i := 2) (j := 3) (by rfl) scAll.nd rfl rfl (by decide) rfl rfl (pa_cons (pe_call GM hr3 rfl gMade FM.kp bM .nil pass0 (pa_cons (pv 0) pa_nil)) (pa_cons (pe_call GN hr3 rfl gNamed FN.kp bN .nil pass0 (pa_cons (pv 0) pa_nil)) pa_nil)) (by rfl))
      (pss_cons (ps_for PassesOwn.never rfl (pi_enum (by rfl) gEnum (pa_cons (pv 2) pa_nil)) (pg_tup (by rfl) (pgs_cons (pg_name (i := 4) scAll.nd rfl (Or.inl rfl)) (pgs_cons (pg_name (i := 5) scAll.nd rfl (Or.inl rfl)) pgs_nil))) (pss_cons (ps_set (i := 6) scAll.nd rfl (Or.inl rfl) (pe_call GK hr1 rfl gKinds FK.kp bK .nil pass0 (pa_cons (pv 5) pa_nil)))
      (pss_cons (ps_if (PW.pt (pw_or (pt_not (pt_val (pe_callB (call_isErr (D := D) (fI := fI)) (by rfl) gIsi boot_isinstance (pa_cons (pv 5) (pa_cons (pe_glob (v := .ref D) rfl T.mD rfl) pa_nil))))) (pw_or (pt_not (pt_val (pe_callB (call_isErr (D := D) (fI := fI)) (by rfl) gIsi boot_isinstance (pa_cons (pv 5) (pa_cons (pe_bltn (v := .ty "ValueError") (by rfl) gVE boot_VE rfl) pa_nil))))) (pw_or1 (pt_cmpR op_ne (pe_bm PySem.F.plainAttrs_list PySem.F.slot_list_count PySem.F.type_list_count mt_countB (pv 6) (pa_cons pe_bl pa_nil)) pe_int (nomark _)))))) (pss_one (ps_ret pe_bl)) pss_nil)
      (pss_one (ps_if (PW.pt (pw_or (pt_not (pt_val (pe_ix ix_list (pv 6) (pv 4) (fun _ _ => rfl)))) (pw_or1 (pt_cmpR op_ne (pe_callB (call_repr hr hg hs) (by rfl) gRepr boot_repr (pa_cons (pe_lst (pa_cons (pe_errV (D := D) (fI := fI) (pv 5)) (pa_cons (pe_errV (D := D) (fI := fI) (pe_ix ix_list (pv 3) (pv 4) (fun _ _ => rfl))) pa_nil))) pa_nil)) (pe_callB (call_repr hr hg hs) (by rfl) gRepr boot_repr (pa_cons (pe_lst (pa_cons (pv 0) (pa_cons (pv 0) pa_nil))) pa_nil)) (nomark _))))) (pss_one (ps_ret pe_bl)) pss_nil)))))
      (pss_cons (ps_set (i := 1) scAll.nd rfl (Or.inl rfl) (pe_err T.ini T.sup T.erD bI hr3 h2 rfl T.mD (pv 0)))
      (pss_one (ps_ret (pe_and (pe_cmpR op_eq (pe_callB (call_repr hr hg hs) (by rfl) gRepr boot_repr (pa_cons (pe_errV (D := D) (fI := fI) (pv 1)) pa_nil)) (pe_callB (call_repr hr hg hs) (by rfl) gRepr boot_repr (pa_cons (pv 0) pa_nil)) (nomark _)) (pe_and (pe_cmpR op_eq (pe_bm PySem.F.plainAttrs_list PySem.F.slot_list_count PySem.F.type_list_count mt_countB (pe_call GK hr1 rfl gKinds FK.kp bK .nil pass0 (pa_cons (pv 1) pa_nil)) (pa_cons pe_bl pa_nil)) pe_int (nomark _)) (pe_one (pe_callB (call_isErr (D := D) (fI := fI)) (by rfl) gIsi boot_isinstance (pa_cons (pv 1) (pa_cons (pe_bltn (v := .ty "ValueError") (by rfl) gVE boot_VE rfl) pa_nil))))))))))), ?_⟩
    refine ⟨_, rfl, v, rfl, fun La as1 H1 hL1 M1 => ⟨_, rfl, v, rfl, fun Lb as2 H2 hL2 M2 => ⟨_, _, rfl, ?_⟩⟩⟩
    have s1 : Same H H1 := same_of_kp hL1 M1.kp
    have s2 : Same H1 H2 := same_of_kp hL2 M2.kp
    have len1 : (as1.map V.ref).length = 26 := by rw [List.length_map, M1.len]
    refine ⟨_, rfl, La, _, rfl, SqL.of (s2 _ _ M1.lst), for_it (walk_enum (K := K) (a := La) (xs := as1.map V.ref)) (fun i σ H' => ∃ v4 v5 v6 : Option V, σ = [some v, none, some (.ref La), some (.ref Lb), v4, v5, v6] ∧ Same H2 H') ⟨none, none, none, rfl, Same.refl _⟩ (fun i σ H' _ ⟨_, _, _, _, s3⟩ => SqL.of (s3 _ _ (s2 _ _ M1.lst))) ?_ ?_⟩
    · rintro i x σ H' H'' hi ⟨v4, v5, v6, rfl, s3⟩ ⟨Tt, x1, y1, rfl, hT, rfl, e1, e2⟩
      cases e1
      rw [len1] at hi
      have e2 : (as1.map V.ref)[i]? = some y1 := e2
      obtain ⟨a, ha, rfl⟩ : ∃ a, as1[i]? = some a ∧ y1 = V.ref a := by
        rw [List.getElem?_map] at e2
        cases e : as1[i]? with
        | none => rw [e] at e2; cases e2
        | some a => rw [e] at e2; exact ⟨a, rfl, (Option.some.inj e2).symm⟩
      have hb2 : i < as2.length := by rw [M2.len]; exact hi
      have ha2 : as2[i]? = some as2[i] := List.getElem?_eq_getElem hb2
      have s4 : Same H2 (upd H' Tt (.tup [V.int i, V.ref a])) := s3.trans (same_new hT)
      have ea : ErrAt (upd H' Tt (.tup [V.int i, V.ref a])) a (c i) v := ((M1.at_ i a ha).same s2).same s4
      have eb : ErrAt (upd H' Tt (.tup [V.int i, V.ref a])) as2[i] (c i) v := (M2.at_ i _ ha2).same s4
      have TC := T.er i hi
      refine ⟨Tt, _, rfl, SqT.of upd_same, rfl, _, _, rfl, _, _, rfl, rfl, ?_⟩
      refine ⟨_, rfl, a, c i, v, rfl, TC, ea, fun j hj => T.kit i j hi hj, fun L3 H3 hL3 l3 k3 => ?_⟩
      have s5 : Same (upd H' Tt (.tup [V.int i, V.ref a])) H3 := same_of_kp hL3 k3
      have ea3 := ea.same s5
      refine ⟨_, rfl, a, c i, _, _, v, true, rfl, TC, ea3, .own D, T.kitL i hi, _, rfl, ?_⟩
      refine ⟨_, rfl, a, c i, _, _, v, true, rfl, TC, ea3, .ty "ValueError", T.kitV i hi, _, rfl, ?_⟩
      refine ⟨_, rfl, .inl ⟨rfl, _, SqL.of l3⟩, L3, _, true, rfl, rfl, SqL.of l3, rfl, _, rfl, ?_⟩
      refine iteNS (show V.int (((List.range 26).map fun j => decide (c i = c j)).count true : Nat) = V.int 1 by rw [cnt_at T hi]; rfl) ?_
      have hat : atI (((List.range 26).map fun j => decide (c i = c j)).map V.bl) ((i : Nat) : Int) = some (V.bl true) := by
        refine atI_nat ?_
        rw [List.getElem?_map, List.getElem?_map, List.getElem?_range hi]
        show some (V.bl (decide (c i = c i))) = some (V.bl true)
        rw [decide_eq_true rfl]
      have s6 : Same H2 H3 := s4.trans s5
      have s7 : Same H H3 := (s1.trans s2).trans s6
      refine ⟨_, rfl, _, rfl, L3, _, _, _, rfl, rfl, SqL.of l3, hat, _, rfl, ?_⟩
      have hix : atI (as2.map V.ref) ((i : Nat) : Int) = some (V.ref as2[i]) := atI_nat (by rw [List.getElem?_map, ha2]; rfl)
      refine ⟨_, rfl, a, c i, v, rfl, TC, ea3, ?_⟩
      refine ⟨_, rfl, _, rfl, Lb, _, _, _, rfl, rfl, SqL.of (s6 _ _ M2.lst), hix, as2[i], c i, v, rfl, TC, eb.same s5, ?_⟩
      refine ⟨(by show 2 ≤ sizeLine; decide), fun q hq => ?_⟩
      have rv3 := rv.same s7
      have s8 : Same H3 (upd H3 q (.lst [v, v])) := same_new hq
      refine ⟨.ref q, .list [d, d], rfl, .lst upd_same (.cons (rv3.same s8) (.cons (rv3.same s8) .nil)), shl2 sh, ?_⟩
      refine ⟨_, rfl, _, rfl, (by show 2 ≤ sizeLine; decide), fun q2 hq2 => ?_⟩
      have s9 := s8.trans (same_new (o := .lst [v, v]) hq2)
      refine ⟨.ref q2, .list [d, d], rfl, .lst upd_same (.cons (rv3.same s9) (.cons (rv3.same s9) .nil)), shl2 sh, rfl, _, rfl, ?_⟩
      refine iteNS rfl ?_
      exact ⟨_, _, _, rfl, s6.trans s9⟩
    · rintro σ H3 ⟨v4, v5, v6, rfl, s3⟩
      have s7 : Same H H3 := (s1.trans s2).trans s3
      refine ⟨_, rfl, fun a dd ha hd hne => ?_⟩
      have s8 : Same H3 (upd (upd H3 dd (exd dd [("value", v)])) a (exo a D (some dd))) := fun b o h => by
        rw [upd_ne (ne_of_none h ha), upd_ne (ne_of_none h hd)]
        exact h
      have ea : ErrAt (upd (upd H3 dd (exd dd [("value", v)])) a (exo a D (some dd))) a D v := ⟨dd, upd_same, by rw [upd_ne hne]; exact upd_same⟩
      have rv4 := rv.same (s7.trans s8)
      have sh' : Sh d 390000 40 := sh.mono (by decide) (by decide)
      refine ⟨_, rfl, a, D, v, rfl, T.erD, ea, v, d, rfl, rv4, sh', _, rfl, v, d, rfl, rv4, sh', rfl, true, congrArg V.bl (decide_eq_true rfl), ?_⟩
      refine ⟨_, rfl, a, D, v, rfl, T.erD, ea, fun j hj => T.kitD j hj, fun L3 H4 hL3 l3 k3 => ?_⟩
      have s9 : Same _ H4 := same_of_kp hL3 k3
      refine ⟨.inl ⟨rfl, _, SqL.of l3⟩, L3, _, true, rfl, rfl, SqL.of l3, rfl, true, congrArg V.bl (decide_eq_true (show V.int (((List.range 26).map fun j => decide (D = c j)).count true : Nat) = V.int 0 by rw [cnt_D T]; rfl)), ?_⟩
      refine ⟨_, rfl, a, D, _, _, v, true, rfl, T.erD, ea.same s9, .ty "ValueError", T.kitDV, ?_⟩
      exact k _ ((s7.trans s8).trans s9)
end
end K14
set_option maxHeartbeats 4000000
namespace K14
open PySem PySem.Spec PyProof.Rows L2 SL
def spLaw (K : PySem.W.Frag) : Sp := fun vs H Q _ => ∃ (a : Addr) (ns : List Int), vs = [.ref a] ∧ SqL K H a (ns.map V.int) ∧ ns.length ≤ 63 ∧ ∀ H', Q (.bl true) H'
section
variable {P : Program} {w : World} {K : PySem.W.Frag} {mg : Str → Option Value} {base : Heap} {f fP fV fA : Addr} {fd fdP fdV fdA : FuncData}
theorem scLaw : FnScope ["_law_script", "_law_k", "_law_pot_here"] ["_law_script"] (defScope sLaw) := ⟨rfl, rfl, rfl, by decide +kernel, rfl, by decide +kernel, by decide +kernel⟩
theorem ok_law (F : FnP K "law" sLaw f fd) (FP : FnP K "_law_pot" sPot fP fdP) (gPot : mg "_law_pot" = some (.ref fP)) (GP : FnOk P w K mg base CX0 1 fP fdP ["_law_script", "_law_k"] (spPot K))
    (FV_ : FnP K "_law_value" sValue fV fdV) (gV : mg "_law_value" = some (.ref fV)) (GV : FnOk P w K mg base CX0 5 fV fdV ["_law_pot_here", "_law_deep"] (spValue 3))
    (FA : FnP K "_law_all_right" sAll fA fdA) (gAll : mg "_law_all_right" = some (.ref fA)) (GA : FnG P w K mg base CX0 4 fA fdA ["_law_thing"] spAll)
    (gRange : mg "range" = none) (gMax : mg "max" = none) (gMin : mg "min" = none) (gLen : mg "len" = none) : FnG P w K mg base CX0 6 f fd ["_law_script"] (spLaw K) := by
  have bP : Binds K fdP ["_law_script", "_law_k"] [] := FP.bindsN fun _ _ _ _ _ _ us hl => match us, hl with | [_, _], _ => rfl
  have bV : Binds K fdV ["_law_pot_here", "_law_deep"] [] := FV_.bindsN fun _ _ _ _ _ _ us hl => match us, hl with | [_, _], _ => rfl
  have bA : Binds K fdA ["_law_thing"] [] := FA.bindsN fun _ _ _ _ _ _ us hl => match us, hl with | [_], _ => rfl
  refine funD_okG (k := 5) F scLaw (fun vs H Q E h => ?_) (fun cdv A outer s H vs Q E hg hr h => ?_)
  · obtain ⟨a, ns, rfl, _⟩ := h
    rfl
  · obtain ⟨a, ns, rfl, hS, hl, k⟩ := h
    have hr1 : Room 1 _ := hr.mono (by decide)
    have hr4 : Room 4 _ := hr.mono (by decide)
    refine ⟨_, PSs.nox (pss_cons (ps_for PassesOwn.never rfl (pi_range1 (by rfl) gRange (pa_cons (pe_callB (call_max2 rfl) (by rfl) gMax (by decide +kernel) (pa_cons pe_int (pa_cons (pe_callB (call_min2 rfl) (by rfl) gMin (by decide +kernel) (pa_cons pe_int (pa_cons (pe_callB call_len (by rfl) gLen (by decide +kernel) (pa_cons (pv 0) pa_nil)) pa_nil))) pa_nil))) pa_nil)) (pg_name (i := 1) scLaw.nd rfl (Or.inl rfl)) (pss_cons (ps_set (i := 2) scLaw.nd rfl (Or.inl rfl) (pe_call GP hr1 rfl gPot FP.kp bP .nil pass0 (pa_cons (pv 0) (pa_cons (pv 1) pa_nil))))
      (pss_one (ps_if (PW.pt (pw_or (pt_not (pt_val (pe_callG GA hg hr4 rfl gAll FA.kp bA .nil pass0 (pa_cons (pe_call GV hr rfl gV FV_.kp bV .nil pass0 (pa_cons (pv 2) (pa_cons pe_int pa_nil))) pa_nil)))) (pw_or1 (pt_not (pt_val (pe_callG GA hg hr4 rfl gAll FA.kp bA .nil pass0 (pa_cons (pe_call GV hr rfl gV FV_.kp bV .nil pass0 (pa_cons (pv 2) (pa_cons pe_int pa_nil))) pa_nil))))))) (pss_one (ps_ret pe_bl)) pss_nil))))
      (pss_one (ps_ret pe_bl))), ?_⟩
    refine ⟨_, rfl, _, (ns.map V.int).length, rfl, .inl ⟨_, hS, rfl⟩, _, _, rfl, _, _, rfl, _, rfl, ?_⟩
    have hj : ∀ x : Int, 0 ≤ x → x ≤ 63 → 0 ≤ (if (if x < 12 then x else 12) > 1 then (if x < 12 then x else 12) else 1) ∧ (if (if x < 12 then x else 12) > 1 then (if x < 12 then x else 12) else 1) ≤ 12 := fun x h0 h1 => by
      split <;> split <;> omega
    have hl2 : (((ns.map V.int).length : Nat) : Int) ≤ 63 := by rw [List.length_map]; omega
    obtain ⟨hj0, hj1⟩ := hj (((ns.map V.int).length : Nat) : Int) (by omega) hl2
    refine ⟨by omega, by omega, for_range (lo := 0) (fun i σ H' => i ≤ 12 ∧ ∃ v1 v2 : Option V, σ = [some (.ref a), v1, v2] ∧ Same H H') ⟨by omega, none, none, rfl, Same.refl _⟩ ?_ ?_⟩
    · rintro i σ H1 hi ⟨hi12, v1, v2, rfl, s1⟩
      have hi' : i < 12 := by omega
      refine ⟨_, rfl, _, rfl, a, ns, _, rfl, s1.seq hS, by omega, by omega, hl, fun p l H2 hp hpl hp2 s2 => ?_⟩
      refine ⟨_, rfl, p, 2, 1000, l, rfl, by decide, hp2, hpl.mono (by decide), fun v D l3 H3 rv sh hl3 hp3 kp3 => ?_⟩
      have s3 : Same H1 H3 := fun b o h => kp3 b o (ne_of_none h hp) (s2 b o h)
      refine ⟨v, D, rfl, rv.same Hx_le, sh.mono (by decide) (by decide), fun H4 s4 => ⟨_, rfl, ?_⟩⟩
      refine ⟨_, rfl, p, 0, 10, l3, rfl, by decide, s4 _ _ hp3, hl3.mono (by decide), fun v' D' l5 H5 rv' sh' hl5 hp5 kp5 => ?_⟩
      have s5 : Same H1 H5 := fun b o h => kp5 b o (ne_of_none h hp) (s4 b o (s3 b o h))
      refine ⟨v', D', rfl, rv'.same Hx_le, sh'.mono (by decide) (by decide), fun H6 s6 => ⟨_, rfl, ?_⟩⟩
      exact ⟨by omega, _, _, rfl, s1.trans (s5.trans s6)⟩
    · rintro σ H1 ⟨_, v1, v2, rfl, s1⟩
      exact k _
end
end K14
set_option maxHeartbeats 0
namespace K14
open PySem PySem.Spec PyProof.Rows L2 SL
def eN : List Str := (["BadStyle", "NoClass", "BadZoom", "BadLabels", "NoLabel", "OtherStyle", "BadBytes", "BadLine", "Unlike", "BadZooms", "BadLabel", "BadTile", "BadTiles", "BadStrip", "TooMany"] : List Str) ++ (["BadChange", "BadOffers", "BadWish", "BadSeen", "Unseen", "BadPlace", "BadWeight", "NoTrial", "NothingToUndo", "NothingToRedo", "BadJournal"] : List Str)
def fa : List He.Fa := ([.glo "LabelError", .glo "BadStyle", .glo "NoClass", .glo "BadZoom", .glo "BadLabels", .glo "NoLabel", .glo "OtherStyle", .glo "BadBytes", .glo "BadLine", .glo "Unlike", .glo "BadZooms", .glo "BadLabel", .glo "BadTile", .glo "BadTiles", .glo "BadStrip"] : List He.Fa) ++
  ([.glo "TooMany", .glo "BadChange", .glo "BadOffers", .glo "BadWish", .glo "BadSeen", .glo "Unseen", .glo "BadPlace", .glo "BadWeight", .glo "NoTrial", .glo "NothingToUndo", .glo "NothingToRedo", .glo "BadJournal", .glo "_law_pot", .glo "_law_take", .glo "_law_of"] : List He.Fa) ++
  ([.glo "_law_value", .glo "_law_made", .glo "_law_named", .glo "_law_kinds", .glo "_law_all_right", .glo "law", .free "int", .free "abs", .free "len", .free "range", .free "tuple", .free "isinstance", .free "repr", .free "enumerate", .free "ValueError"] : List He.Fa) ++
  ([.free "super", .free "max", .free "min"] : List He.Fa)
def dPot : He.DefD := ⟨("_law_pot", none), "_law_pot", "_law_pot", defArgs sPot, defBody sPot, defScope sPot, [], []⟩
def dTake : He.DefD := ⟨("_law_take", none), "_law_take", "_law_take", defArgs sTake, defBody sTake, defScope sTake, [], []⟩
def dOf : He.DefD := ⟨("_law_of", none), "_law_of", "_law_of", defArgs sOf, defBody sOf, defScope sOf, [], []⟩
def dValue : He.DefD := ⟨("_law_value", none), "_law_value", "_law_value", defArgs sValue, defBody sValue, defScope sValue, [], []⟩
def dMade : He.DefD := ⟨("_law_made", none), "_law_made", "_law_made", defArgs sMade, defBody sMade, defScope sMade, [], []⟩
def dNamed : He.DefD := ⟨("_law_named", none), "_law_named", "_law_named", defArgs sNamed, defBody sNamed, defScope sNamed, [], []⟩
def dKinds : He.DefD := ⟨("_law_kinds", none), "_law_kinds", "_law_kinds", defArgs sKinds, defBody sKinds, defScope sKinds, [], []⟩
def dAll : He.DefD := ⟨("_law_all_right", none), "_law_all_right", "_law_all_right", defArgs sAll, defBody sAll, defScope sAll, [], []⟩
def dLaw : He.DefD := ⟨("law", none), "law", "law", defArgs sLaw, defBody sLaw, defScope sLaw, [], []⟩
def fn : List He.DefD := [dPot, dTake, dOf, dValue, dMade, dNamed, dKinds, dAll, dLaw]
abbrev prg : Program := PySem.Challenge.pw_steadylabels_k14_errors_by_themselves
abbrev sIni : Stmt := inClass (top 1) 0
def fIn (K : PySem.W.Frag) : Addr := He.ma K (He.ga K "LabelError") "__init__"
def iv : FnI := some ("__init__", "LabelError.__init__", defArgs sIni, .stmts (defBody sIni), defScope sIni, mainGlobals, builtinsNs, ["__class__"])
theorem iv_eq : iv = iniV ⟨4, 17, 4, 21⟩ ⟨4, 23, 4, 28⟩ ⟨5, 8, 5, 13⟩ ⟨5, 8, 5, 15⟩ ⟨5, 8, 5, 24⟩ ⟨5, 25, 5, 30⟩ ⟨5, 8, 5, 31⟩ ⟨5, 8, 5, 31⟩ ⟨6, 8, 6, 12⟩ ⟨6, 8, 6, 18⟩ ⟨6, 21, 6, 26⟩ ⟨6, 8, 6, 26⟩ := rfl
def mrB (K : PySem.W.Frag) (C : Addr) (l : List Value) : Bool := decide ((PySem.W.clsIn K C).map (·.mro) = some l)
def exB (K : PySem.W.Frag) : Bool := (K.lookup sysModules).isSome && (iniB prg K (He.ga K "LabelError") (fIn K) && (errB K (He.ga K "LabelError") (fIn K) (He.ga K "LabelError") && (eN.all (fun x => errB K (He.ga K "LabelError") (fIn K) (He.ga K x)) &&
  (eN.all (fun x => mrB K (He.ga K x) (.ref (He.ga K x) :: .ref (He.ga K "LabelError") :: veT)) && (mrB K (He.ga K "LabelError") (.ref (He.ga K "LabelError") :: veT) && decide ((He.ga K "LabelError" :: eN.map (He.ga K)).Nodup))))))
abbrev R : PySem.W.OpenRow := PySem.W.OpenLaw.row PySem.Challenge.rw_steadylabels_k14_errors_by_themselves
abbrev hk : PySem.W.Hook := hookX 5 fa fn fIn iv exB
def ob (s : PySem.W.SharedT) : AlX := obsX fa fn fIn exB (fragX 5 (HandSHeadRun.getT s))
theorem ob_eq (s : PySem.W.SharedT) : ob s = hk.obs s.abs := obsX_eq (HandSHeadRun.getT_eq s)
def loose : List Str := (["LabelError", "BadStyle", "NoClass", "BadZoom", "BadLabels", "NoLabel", "OtherStyle", "BadBytes", "BadLine", "Unlike", "BadZooms", "BadLabel", "BadTile", "BadTiles", "BadStrip"] : List Str) ++ (["TooMany", "BadChange", "BadOffers", "BadWish", "BadSeen", "Unseen", "BadPlace", "BadWeight", "NoTrial", "NothingToUndo", "NothingToRedo", "BadJournal", "_law_pot", "_law_take", "_law_of"] : List Str) ++ (["_law_value", "_law_made", "_law_named", "_law_kinds", "_law_all_right"] : List Str)
theorem run (w : World) : HandSHeadRun.RunEq R (PySem.W.view R.prog [37]) hk ob 9000 loose w := by
  intro os
  kernel_rfl
end K14
set_option maxHeartbeats 0
namespace K14
open PySem PySem.Spec PyProof.Rows L2 SL
section
variable {K : PySem.W.Frag}
theorem mro_of {C : Addr} {l : List Value} (h : mrB K C l = true) : ∃ cd, PySem.W.clsIn K C = some cd ∧ cd.mro = l := by
  have h' := of_decide_eq_true h
  obtain ⟨cd, h1, h2⟩ := Option.map_eq_some_iff.mp h'
  exact ⟨cd, h1, h2⟩
theorem kit_mro {t C : Addr} {x : Value} {l : List Value} (h : mrB K t (x :: l) = true) (hC : (PySem.W.clsIn K C).isSome = true) (ty : PySem.W.typeIn K (.ref C) = some (.type "type")) (ne : t ≠ C) :
    PySem.W.kitOne K (.ref t) (.ref C) = some ((x :: l).contains (.ref C)) := by
  obtain ⟨cd, h1, h2⟩ := mro_of h
  have e1 : (Value.ref t == Value.ref C) = false := beq_eq_false_iff_ne.mpr fun z => ne (Value.ref.inj z)
  unfold PySem.W.kitOne
  rw [e1, if_neg Bool.false_ne_true]
  unfold PySem.W.kitCls
  dsimp only
  rw [hC, ty, if_pos (by rw [beq_self_eq_true, Bool.and_self])]
  unfold PySem.W.subIn PySem.W.mroIn
  dsimp only
  rw [h1, Option.bind_some, h2]
  rfl
theorem kit_self {C : Addr} : PySem.W.kitOne K (.ref C) (.ref C) = some true := by
  unfold PySem.W.kitOne
  rw [beq_self_eq_true, if_pos rfl]
theorem kit_VE {C : Addr} (h : PySem.W.subIn K (.ref C) (.type "ValueError") = some true) : PySem.W.kitOne K (.ref C) (.type "ValueError") = some true := by
  have e1 : (Value.ref C == Value.type "ValueError") = false := rfl
  have e2 : PySem.W.kitMeta "ValueError" = true := by decide +kernel
  unfold PySem.W.kitOne
  rw [e1, if_neg Bool.false_ne_true]
  unfold PySem.W.kitCls
  dsimp only
  rw [e2, if_pos rfl]
  exact h
theorem _root_.SL.ErrC.isCls {D fI C : Addr} (T : ErrC K D fI C) : (PySem.W.clsIn K C).isSome = true := by
  obtain ⟨cd, hc, _⟩ := PySem.W.any_some T.hdC
  rw [hc]
  rfl
def cN (K : PySem.W.Frag) (j : Nat) : Addr := He.ga K (eN.getD j "")
theorem cN_mem {j : Nat} (h : j < 26) : eN.getD j "" ∈ eN := by
  have hl : j < eN.length := h
  rw [List.getD_eq_getElem?_getD, List.getElem?_eq_getElem hl]
  exact List.getElem_mem hl
theorem cN_get {j : Nat} (h : j < 26) : (eN.map (He.ga K))[j]? = some (cN K j) := by
  have hl : j < eN.length := h
  unfold cN
  rw [List.getElem?_map, List.getElem?_eq_getElem hl, List.getD_eq_getElem?_getD, List.getElem?_eq_getElem hl]
  rfl
theorem facts {w : World} {h : Heap} {mg : Str → Option Value} {f : Addr} (X : K.In h) (G : h.Ns mainGlobals mg) (hfa : mg ("law" : Str) = some (.ref f)) (o : obsX fa fn fIn exB K = ((He.valD fn, iv), true)) :
    ∃ fd : FuncData, (∀ (s : Shared) (v : Value), BindsTo s fd ⟨[v], []⟩ [("_law_script", v)]) ∧ ∀ base : Heap, K.In base → base.Ns mainGlobals mg → FnG prg w K mg base CX0 6 f fd ["_law_script"] (spLaw K) := by
  have c : He.SaysD fa fn K := congrArg (fun z : AlX => z.1.1) o
  have oi : fnI K (fIn K) = iv := congrArg (fun z : AlX => z.1.2) o
  have ox : exB K = true := congrArg (fun z : AlX => z.2) o
  unfold exB at ox
  simp only [Bool.and_eq_true, decide_eq_true_eq] at ox
  obtain ⟨hsys, hini, herD, her, hmr, hmrD, hnd⟩ := ox
  rw [iv_eq] at oi
  obtain ⟨fdI, I0, hdf⟩ := iniB_ok hini oi (by decide) (by decide +kernel)
  have TD := errB_ok herD
  have TE : ∀ j, j < 26 → ErrC K (He.ga K "LabelError") (fIn K) (cN K j) := fun j hj => errB_ok (List.all_eq_true.mp her _ (cN_mem hj))
  have MR : ∀ j, j < 26 → mrB K (cN K j) (.ref (cN K j) :: .ref (He.ga K "LabelError") :: veT) = true := fun j hj => List.all_eq_true.mp hmr _ (cN_mem hj)
  obtain ⟨hndD, hndE⟩ := List.nodup_cons.mp hnd
  have nD : ∀ j, j < 26 → He.ga K "LabelError" ≠ cN K j := fun j hj z => hndD (by rw [z]; exact List.mem_of_getElem? (cN_get hj))
  have ndE : ∀ i j, i < 26 → j < 26 → cN K i = cN K j → i = j := fun i j hi hj z => nd_ix hndE (cN_get hi) (by rw [z]; exact cN_get hj)
  have kit : ∀ i j, i < 26 → j < 26 → PySem.W.kitOne K (.ref (cN K i)) (.ref (cN K j)) = some (decide (cN K i = cN K j)) := fun i j hi hj => by
    by_cases z : cN K i = cN K j
    · rw [z, decide_eq_true rfl]
      exact kit_self
    · rw [kit_mro (MR i hi) (TE j hj).isCls (TE j hj).tyC z, decide_eq_false z]
      have z1 : (Value.ref (cN K j) == Value.ref (cN K i)) = false := beq_eq_false_iff_ne.mpr fun y => z (Value.ref.inj y).symm
      have z2 : (Value.ref (cN K j) == Value.ref (He.ga K "LabelError")) = false := beq_eq_false_iff_ne.mpr fun y => nD j hj (Value.ref.inj y).symm
      rw [List.contains_cons, List.contains_cons, z1, z2]
      rfl
  have kitD : ∀ j, j < 26 → PySem.W.kitOne K (.ref (He.ga K "LabelError")) (.ref (cN K j)) = some (decide (He.ga K "LabelError" = cN K j)) := fun j hj => by
    rw [kit_mro hmrD (TE j hj).isCls (TE j hj).tyC (nD j hj), decide_eq_false (nD j hj)]
    have z2 : (Value.ref (cN K j) == Value.ref (He.ga K "LabelError")) = false := beq_eq_false_iff_ne.mpr fun y => nD j hj (Value.ref.inj y).symm
    rw [List.contains_cons, z2]
    rfl
  have kitL : ∀ i, i < 26 → PySem.W.kitOne K (.ref (cN K i)) (.ref (He.ga K "LabelError")) = some true := fun i hi => by
    rw [kit_mro (MR i hi) TD.isCls TD.tyC fun z => nD i hi z.symm, List.contains_cons, List.contains_cons, beq_self_eq_true, Bool.true_or, Bool.or_true]
  have g0 : mg "LabelError" = some (.ref (He.ga K "LabelError")) := He.glo_ok X G (c.fact 0 (f := .glo "LabelError") rfl)
  have g1 : mg "BadStyle" = some (.ref (He.ga K "BadStyle")) := He.glo_ok X G (c.fact 1 (f := .glo "BadStyle") rfl)
  have g2 : mg "NoClass" = some (.ref (He.ga K "NoClass")) := He.glo_ok X G (c.fact 2 (f := .glo "NoClass") rfl)
  have g3 : mg "BadZoom" = some (.ref (He.ga K "BadZoom")) := He.glo_ok X G (c.fact 3 (f := .glo "BadZoom") rfl)
  have g4 : mg "BadLabels" = some (.ref (He.ga K "BadLabels")) := He.glo_ok X G (c.fact 4 (f := .glo "BadLabels") rfl)
  have g5 : mg "NoLabel" = some (.ref (He.ga K "NoLabel")) := He.glo_ok X G (c.fact 5 (f := .glo "NoLabel") rfl)
  have g6 : mg "OtherStyle" = some (.ref (He.ga K "OtherStyle")) := He.glo_ok X G (c.fact 6 (f := .glo "OtherStyle") rfl)
  have g7 : mg "BadBytes" = some (.ref (He.ga K "BadBytes")) := He.glo_ok X G (c.fact 7 (f := .glo "BadBytes") rfl)
  have g8 : mg "BadLine" = some (.ref (He.ga K "BadLine")) := He.glo_ok X G (c.fact 8 (f := .glo "BadLine") rfl)
  have g9 : mg "Unlike" = some (.ref (He.ga K "Unlike")) := He.glo_ok X G (c.fact 9 (f := .glo "Unlike") rfl)
  have g10 : mg "BadZooms" = some (.ref (He.ga K "BadZooms")) := He.glo_ok X G (c.fact 10 (f := .glo "BadZooms") rfl)
  have g11 : mg "BadLabel" = some (.ref (He.ga K "BadLabel")) := He.glo_ok X G (c.fact 11 (f := .glo "BadLabel") rfl)
  have g12 : mg "BadTile" = some (.ref (He.ga K "BadTile")) := He.glo_ok X G (c.fact 12 (f := .glo "BadTile") rfl)
  have g13 : mg "BadTiles" = some (.ref (He.ga K "BadTiles")) := He.glo_ok X G (c.fact 13 (f := .glo "BadTiles") rfl)
  have g14 : mg "BadStrip" = some (.ref (He.ga K "BadStrip")) := He.glo_ok X G (c.fact 14 (f := .glo "BadStrip") rfl)
  have g15 : mg "TooMany" = some (.ref (He.ga K "TooMany")) := He.glo_ok X G (c.fact 15 (f := .glo "TooMany") rfl)
  have g16 : mg "BadChange" = some (.ref (He.ga K "BadChange")) := He.glo_ok X G (c.fact 16 (f := .glo "BadChange") rfl)
  have g17 : mg "BadOffers" = some (.ref (He.ga K "BadOffers")) := He.glo_ok X G (c.fact 17 (f := .glo "BadOffers") rfl)
  have g18 : mg "BadWish" = some (.ref (He.ga K "BadWish")) := He.glo_ok X G (c.fact 18 (f := .glo "BadWish") rfl)
  have g19 : mg "BadSeen" = some (.ref (He.ga K "BadSeen")) := He.glo_ok X G (c.fact 19 (f := .glo "BadSeen") rfl)
  have g20 : mg "Unseen" = some (.ref (He.ga K "Unseen")) := He.glo_ok X G (c.fact 20 (f := .glo "Unseen") rfl)
  have g21 : mg "BadPlace" = some (.ref (He.ga K "BadPlace")) := He.glo_ok X G (c.fact 21 (f := .glo "BadPlace") rfl)
  have g22 : mg "BadWeight" = some (.ref (He.ga K "BadWeight")) := He.glo_ok X G (c.fact 22 (f := .glo "BadWeight") rfl)
  have g23 : mg "NoTrial" = some (.ref (He.ga K "NoTrial")) := He.glo_ok X G (c.fact 23 (f := .glo "NoTrial") rfl)
  have g24 : mg "NothingToUndo" = some (.ref (He.ga K "NothingToUndo")) := He.glo_ok X G (c.fact 24 (f := .glo "NothingToUndo") rfl)
  have g25 : mg "NothingToRedo" = some (.ref (He.ga K "NothingToRedo")) := He.glo_ok X G (c.fact 25 (f := .glo "NothingToRedo") rfl)
  have g26 : mg "BadJournal" = some (.ref (He.ga K "BadJournal")) := He.glo_ok X G (c.fact 26 (f := .glo "BadJournal") rfl)
  have g27 : mg "_law_pot" = some (.ref (He.ga K "_law_pot")) := He.glo_ok X G (c.fact 27 (f := .glo "_law_pot") rfl)
  have g28 : mg "_law_take" = some (.ref (He.ga K "_law_take")) := He.glo_ok X G (c.fact 28 (f := .glo "_law_take") rfl)
  have g29 : mg "_law_of" = some (.ref (He.ga K "_law_of")) := He.glo_ok X G (c.fact 29 (f := .glo "_law_of") rfl)
  have g30 : mg "_law_value" = some (.ref (He.ga K "_law_value")) := He.glo_ok X G (c.fact 30 (f := .glo "_law_value") rfl)
  have g31 : mg "_law_made" = some (.ref (He.ga K "_law_made")) := He.glo_ok X G (c.fact 31 (f := .glo "_law_made") rfl)
  have g32 : mg "_law_named" = some (.ref (He.ga K "_law_named")) := He.glo_ok X G (c.fact 32 (f := .glo "_law_named") rfl)
  have g33 : mg "_law_kinds" = some (.ref (He.ga K "_law_kinds")) := He.glo_ok X G (c.fact 33 (f := .glo "_law_kinds") rfl)
  have g34 : mg "_law_all_right" = some (.ref (He.ga K "_law_all_right")) := He.glo_ok X G (c.fact 34 (f := .glo "_law_all_right") rfl)
  have g35 : mg "law" = some (.ref (He.ga K "law")) := He.glo_ok X G (c.fact 35 (f := .glo "law") rfl)
  have qint : mg "int" = none := He.free_ok X G (c.fact 36 (f := .free "int") rfl)
  have qabs : mg "abs" = none := He.free_ok X G (c.fact 37 (f := .free "abs") rfl)
  have qlen : mg "len" = none := He.free_ok X G (c.fact 38 (f := .free "len") rfl)
  have qrange : mg "range" = none := He.free_ok X G (c.fact 39 (f := .free "range") rfl)
  have qtuple : mg "tuple" = none := He.free_ok X G (c.fact 40 (f := .free "tuple") rfl)
  have qisinstance : mg "isinstance" = none := He.free_ok X G (c.fact 41 (f := .free "isinstance") rfl)
  have qrepr : mg "repr" = none := He.free_ok X G (c.fact 42 (f := .free "repr") rfl)
  have qenumerate : mg "enumerate" = none := He.free_ok X G (c.fact 43 (f := .free "enumerate") rfl)
  have qValueError : mg "ValueError" = none := He.free_ok X G (c.fact 44 (f := .free "ValueError") rfl)
  have qsuper : mg "super" = none := He.free_ok X G (c.fact 45 (f := .free "super") rfl)
  have qmax : mg "max" = none := He.free_ok X G (c.fact 46 (f := .free "max") rfl)
  have qmin : mg "min" = none := He.free_ok X G (c.fact 47 (f := .free "min") rfl)
  have T : CT prg K mg (cN K) (He.ga K "LabelError") (fIn K) fdI := ⟨I0, hdf, qsuper, TE, TD, kit, kitD, kitL, fun i hi => kit_VE (TE i hi).vaC, kit_VE TD.vaC, ndE, nD, g0, g1, g2, g3, g4, g5, g6, g7, g8, g9, g10, g11, g12, g13, g14, g15, g16, g17, g18, g19, g20, g21, g22, g23, g24, g25, g26⟩
  obtain ⟨fdPot, FPot⟩ := c.def_ 0 (d := dPot) rfl
  obtain ⟨fdTake, FTake⟩ := c.def_ 1 (d := dTake) rfl
  obtain ⟨fdOf, FOf⟩ := c.def_ 2 (d := dOf) rfl
  obtain ⟨fdValue, FValue⟩ := c.def_ 3 (d := dValue) rfl
  obtain ⟨fdMade, FMade⟩ := c.def_ 4 (d := dMade) rfl
  obtain ⟨fdNamed, FNamed⟩ := c.def_ 5 (d := dNamed) rfl
  obtain ⟨fdKinds, FKinds⟩ := c.def_ 6 (d := dKinds) rfl
  obtain ⟨fdAll, FAll⟩ := c.def_ 7 (d := dAll) rfl
  obtain ⟨fdLaw, FLaw⟩ := c.def_ 8 (d := dLaw) rfl
  have e := hfa.symm.trans g35
  cases e
  have b := FunD.bindsA (ps := ["_law_script"]) FLaw fun _ _ _ _ _ _ us hl => match us, hl with | [_], _ => rfl
  refine ⟨fdLaw, fun s v => b s [v] rfl, fun base _ _ => ?_⟩
  have GP : FnOk prg w K mg base CX0 1 _ fdPot ["_law_script", "_law_k"] (spPot K) := ok_pot FPot qlen qint qabs
  have GV : FnOk prg w K mg base CX0 5 _ fdValue ["_law_pot_here", "_law_deep"] (spValue 3) := ok_value FValue g30 FTake g28 FOf g29 qlen qint qrange qtuple 3
  have GA : FnG prg w K mg base CX0 4 _ fdAll ["_law_thing"] spAll := ok_all FAll T FMade g31 FNamed g32 FKinds g33 qisinstance qrepr qenumerate qValueError hsys
  exact ok_law FLaw FPot g27 GP FValue g30 GV FAll g34 GA qrange qmax qmin qlen
end
end K14
open PySem PySem.W PySem.Calls PyProof.Rows
theorem PySem.Challenge.cw_steadylabels_k14_errors_by_themselves_holds : PySem.Challenge.rw_steadylabels_k14_errors_by_themselves.Holds := by
  w_on; o_law
  refine HandSHeadRun.head_any (r := OpenLaw.row PySem.Challenge.rw_steadylabels_k14_errors_by_themselves) (q := view (OpenLaw.row PySem.Challenge.rw_steadylabels_k14_errors_by_themselves).prog [37]) (H := K14.hk) (ob := K14.ob) (M := 9000) (loose := K14.loose)
    (d := HandSHeadRun.topDef (OpenLaw.row PySem.Challenge.rw_steadylabels_k14_errors_by_themselves).prog 37) (kwd := []) K14.ob_eq (by kernel_rfl) (fun s => by kernel_rfl) K14.run (by kernel_rfl) (by kernel_rfl) (by kernel_rfl) (by rfl)
    (by first | assumption | decide +kernel) (by decide +kernel) ⟨rfl, rfl, rfl, rfl, rfl, by decide +kernel⟩ ?hw ?hc
  case hw => w_witness2
  case hc =>
    refine SL.walk_ofG (l := PySem.Challenge.rw_steadylabels_k14_errors_by_themselves) (n := 63) (k := 6) (x := "_law_script") (CX := fun _ => L2.CX0) rfl (by decide) (by kernel_rfl) ⟨rfl, by decide, by decide⟩ ?F (fun _ _ _ _ _ z => z)
    intro w mg fa h Y G hmg0
    obtain ⟨K, KX, o⟩ := Y
    have hmg : mg ("law" : PySem.Str) = some (.ref fa) := by
      have e : (HandSHeadRun.topDef (OpenLaw.row PySem.Challenge.rw_steadylabels_k14_errors_by_themselves).prog 37).name = ("law" : PySem.Str) := by kernel_rfl
      rw [← e]
      exact hmg0
    obtain ⟨fd, hb, hF⟩ := K14.facts (w := w) KX G hmg o
    exact ⟨K, fd, K14.spLaw K, KX, hb, fun H a ns hl _ hS => ⟨a, ns, rfl, hS, hl, fun _ => rfl⟩, hF⟩
#print axioms PySem.Challenge.cw_steadylabels_k14_errors_by_themselves_holds
