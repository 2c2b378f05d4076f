import PyProof.Rows.All
import Wide.All
import OpenK.AllK
import Wide.FinOn
import PyProof.ReprRoads
import KE.KUnpack
import KE.DataMinKey
import HandS.Base
import HandS.Call
import HandS.List
import HandS.Words
import HandS.Defaults
import HandS.Ends
import KE.DataCmp
import HandS.More
import HandS.SortKw
import KE.SortKeyHeap
import PyProof.NeData
import HandS.Codes
import HandS.MakeKwOnly
import HandS.Deep
import HandS.IsInst
import HandS.TupLe
import HandS.Iter
import HandS.Comp
import HandS.NoneIn
import HandS.Exc
import HandS.Walk
import HandS.Head0
import HandS.Head1
import HandS.Head2
import HandS.HeadEnd
import HandS.HeadHook1
import HandS.HeadHook2
import KE.KStateDown
import PySem.Challenge.RW_syncrooms_k13_by_default
set_option Elab.async false
set_option linter.all false
set_option maxRecDepth 100000
set_option maxHeartbeats 0
set_option maxRecDepth 100000
set_option maxHeartbeats 4000000
/-! ## Rules that the hand layer lacks -/
namespace XB
open PySem PySem.Spec PyProof.Rows L2

/-! ### defs that know that nothing is being shown (for str of lists) -/
structure FnG (P : Program) (w : World) (K : PySem.W.Frag) (mg : Str → Option Value) (base : Heap) (CX : CXT) (k : Nat) (f : Addr) (fd : FuncData) (ps : List Str) (sp : Sp) : Prop where
  len : ∀ vs H Q E, sp vs H Q E → vs.length = ps.length
  run : ∀ (A : Around) (outer : List Env) (s : Shared) (H : Hp) (args : Args) (us : List Value) (vs : List V) (Q : VK) (E : XK), Room k A → A.guards = some [] → Env0 P w K mg base A outer s H → BindsTo s fd args (ps.zip us) → Vals vs us → sp vs H Q E →
    codeAny (model P w) A (.call (.ref f) args) (CR CX outer P w H s Q E) s

/-- a body's normal end hands back a value -/
theorem end_val {X : Cx} {Q : VK} {fl : Flow} {s' : Shared} (h : SP X [] { nx := fun _ H' => Q .non H', rt := Q } fl s') :
    ∃ σ' v u H', Inv X [] σ' H' s' ∧ RelV v u ∧ Q v H' ∧ ((fl = .next ∧ u = Value.none) ∨ fl = .ret u) := by
  cases fl with
  | brk => exact (h.elim fun _ h => h.elim fun _ h => h.2.elim)
  | cont => exact (h.elim fun _ h => h.elim fun _ h => h.2.elim)
  | next =>
    obtain ⟨σ1, G, J, k⟩ := h
    exact ⟨σ1, .non, .none, G, J, rfl, k, .inl ⟨rfl, rfl⟩⟩
  | ret z =>
    obtain ⟨y, σ1, G, J, rz, k⟩ := h
    exact ⟨σ1, y, z, G, J, rz, k, .inr rfl⟩
theorem fn_ofG {CX : CXT} {P : Program} {w : World} {K : PySem.W.Frag} {mg : Str → Option Value} {base : Heap} {k : Nat} {f : Addr} {name qual : Str} {params : Arguments} {body : List Stmt} {scope : Scope} {dV kV doc pm cdv ct oc : Value} {an od : Option Addr}
    {osl : Array (Option Value)} {N ps : List Str} {sp : Sp} (lk : K.lookup f = some ⟨oc, od, .func (PySem.W.fnOf name qual params body scope dV kV doc pm an cdv ct), osl⟩) (hcd : PySem.W.codeIn K cdv qual = true) (S : FnScope N ps scope)
    (len : ∀ vs H Q E, sp vs H Q E → vs.length = ps.length)
    (hbody : ∀ (A : Around) (outer : List Env) (s : Shared) (H : Hp) (vs : List V) (Q : VK) (E : XK), Room k (A.deeper (envOfC qual scope s.heap.objs.size f cdv)) → A.guards = some [] → sp vs H Q E →
      ∃ t, PSs (cxOf CX P w K mg base N qual scope f cdv A outer s H E) body t ∧ t { nx := fun _ H' => Q .non H', rt := Q } (start N vs) H) :
    FnG P w K mg base CX (k + 1) f (PySem.W.fnOf name qual params body scope dV kV doc pm an cdv ct) ps sp where
  len := len
  run := by
    intro A outer s H args us vs Q E room quiet at0 bound rel want
    have old : ∀ b o, base.get? b = some o → s.heap.get? b = some o := fun b o e => (at0.bs b o e).1
    have inK := at0.mod.kin.keeps old
    obtain ⟨t, walk, reads⟩ := hbody A outer s H vs Q E (room.deeper _) quiet want
    refine codeAny_call_function room.depth (inK _ _ lk) rfl S.co S.gen rfl (PySem.W.codeRec_of inK hcd) (bound _ _ _ _ (wpAny_newFunctionEnv_cells S.kind (fun y hy => ?_) fun env he s1 x => ?_))
    · rcases S.par y.1 (List.of_mem_zip (show (y.1, y.2) ∈ ps.zip us from hy)).1 with q | q
      · exact Or.inl q
      · exact Or.inr ⟨q, PySem.W.cellsFrom_some _ _ _ (Or.inl q)⟩
    · subst he
      refine ⟨(at0.mod.nolimit.keeps old).keeps x.toInCall.keep, codeAny_func (wpAny_mono (walk.run [] s1 (start N vs) H _ (inv_start S room.hd at0 (len _ _ _ _ want) rel x) reads) (fun fl s' he => ?_) fun _ _ z => z)⟩
      obtain ⟨σ1, v, u, G, J, rv, q, e⟩ := end_val he
      have done : CE outer P w H s Q u s' := ⟨v, G, J.os, J.bare, J.base, J.hok, rv, q⟩
      rcases e with ⟨rfl, rfl⟩ | rfl
      · exact done
      · exact done

section
variable {P : Program} {w : World} {K : PySem.W.Frag} {mg : Str → Option Value} {base : Heap} {x qual : Str} {params : Arguments} {body : List Stmt} {scope : Scope} {dvs : List V} {kws : List (Str × V)} {f : Addr} {fd : FuncData}
theorem okG {CX : CXT} {N ps : List Str} {k : Nat} {sp : Sp} (F : FunD K x qual params body scope dvs kws f fd) (S : FnScope N ps scope) (len : ∀ vs H Q E, sp vs H Q E → vs.length = ps.length)
    (hbody : ∀ (cdv : Value) (A : Around) (outer : List Env) (s : Shared) (H : Hp) (vs : List V) (Q : VK) (E : XK), Room k (A.deeper (envOfC qual scope s.heap.objs.size f cdv)) → A.guards = some [] → sp vs H Q E →
      ∃ t, PSs (cxOf CX P w K mg base N qual scope f cdv A outer s H E) body t ∧ t { nx := fun _ H' => Q .non H', rt := Q } (start N vs) H) : FnG P w K mg base CX (k + 1) f fd ps sp := by
  obtain ⟨oc, od, dV, kV, doc, pm, an, cdv, ct, osl, rfl, lk, hcd, _, _⟩ := F.ex
  exact fn_ofG lk hcd S len fun A outer s H vs Q E hr hg hsp => hbody cdv A outer s H vs Q E hr hg hsp
end
theorem FnG.of {P : Program} {w : World} {K : PySem.W.Frag} {mg : Str → Option Value} {base : Heap} {CX : CXT} {k : Nat} {f : Addr} {fd : FuncData} {ps : List Str} {sp : Sp} (F : FnOk P w K mg base CX k f fd ps sp) : FnG P w K mg base CX k f fd ps sp :=
  ⟨F.len, fun A outer s H args us vs Q E hr _ e0 hb r hsp => F.run A outer s H args us vs Q E hr e0 hb r hsp⟩

section
variable {X : Cx} {CX : CXT} {k : Nat} {f C : Addr} {fd : FuncData} {ps : List Str} {sp : Sp} {dvs : List V} {ds : List Value} {E : XK} {x m : Str} {p pos apos : Pos} {e o : Expr} {es : List Expr} {ta : TE} {t : TA}
theorem run_fnG {pins : List (Addr × Obj)} {σ : L2.St} {H : Hp} {s : Shared} {Q : VK} {us : List Value} {vs : List V} (F : FnG X.prog X.w X.K X.mg X.base CX k f fd ps sp) (hr : Room k X.A) (hgd : X.A.guards = some []) (hb : Binds X.K fd ps ds) (hd : Vals dvs ds) (hx : Passes CX X E)
    (I : Inv X pins σ H s) (r : Vals vs us) (h : sp (vs ++ dvs) H Q E) : wpAny (model X.prog X.w) X.A (call (.ref f) us) (EP X pins σ Q) X.xe s := by
  have r2 : Vals (vs ++ dvs) (us ++ ds) := r.append hd
  have hl : (us ++ ds).length = ps.length := by rw [← r2.length]; exact F.len _ _ _ _ h
  refine wpAny_call (codeAny_mono (F.run X.A X.stack s H ⟨us, []⟩ (us ++ ds) (vs ++ dvs) Q E hr hgd I.env0 (hb s us I.kIn hl) r2 h) fun r s' hq => ?_)
  cases r with
  | error e => exact hx pins σ H s e s' I hq
  | ok fl =>
    cases fl with
    | ret u => exact I.after hq
    | next => exact False.elim hq
    | brk => exact False.elim hq
    | cont => exact False.elim hq
theorem pe_callG (F : FnG X.prog X.w X.K X.mg X.base CX k f fd ps sp) (hr : Room k X.A) (hgd : X.A.guards = some []) (hg : Gl X x) (hm : X.mg x = some (.ref f)) (hk : PySem.W.keepIn X.K (.ref f) = true) (hb : Binds X.K fd ps ds) (hd : Vals dvs ds) (hx : Passes CX X E)
    (ha : PA X (e :: es) t) (hdb : (x == ("__debug__" : Str)) = false := by decide) (he : starEach (e :: es) X.env = (false, eval e X.env) :: starEach es X.env := by rfl) (hpl : (backTo pos (starEach es X.env)).any (·.1) = false := by rfl) :
    PE X (.Call (.Name x p) (e :: es) [] pos) (tCall sp dvs E t) := by
  refine ⟨fun pins s σ H Q I h => ?_⟩
  refine wpAny_Call_Name_kw (ld_glob I hg hm ?_ hdb)
  refine PySem.W.callWith_K (h₀ := X.base) I.ok.mod.kin hk (thn (ha.run pos pins s σ H _ I h) fun us s1 ⟨vs, H1, I1, r, q⟩ => ⟨I1.kIn, ?_⟩) he hpl
  exact run_fnG F hr hgd hb hd hx I1 r q
theorem pe_callG0 (F : FnG X.prog X.w X.K X.mg X.base CX k f fd ps sp) (hr : Room k X.A) (hgd : X.A.guards = some []) (hg : Gl X x) (hm : X.mg x = some (.ref f)) (hk : PySem.W.keepIn X.K (.ref f) = true) (hb : Binds X.K fd ps ds) (hd : Vals dvs ds) (hx : Passes CX X E)
    (hdb : (x == ("__debug__" : Str)) = false := by decide) : PE X (.Call (.Name x p) [] [] pos) (tCall sp dvs E tNil) := by
  refine ⟨fun pins s σ H Q I h => ?_⟩
  refine wpAny_Call_Name_kw (ld_glob I hg hm ?_ hdb)
  exact PySem.W.callWith_K0 I.kIn hk (run_fnG (us := []) F hr hgd hb hd hx I .nil h)
end

/-! ### the law's end -/
/-- the script alone is tracked: as an object that is known, where the written part does not have it -/
def scrH (a : Addr) (o : Obj) (xs : List V) (b : Bool) : Hp := fun c => if b = true ∧ c = a then some (.frz o (.lst xs)) else none
theorem scrH_some {a c : Addr} {o : Obj} {xs : List V} {b : Bool} {u : HO} (h : scrH a o xs b c = some u) : b = true ∧ c = a ∧ u = .frz o (.lst xs) := by
  unfold scrH at h
  split at h
  · rename_i g
    exact ⟨g.1, g.2, (Option.some.inj h).symm⟩
  · cases h
theorem law_callG {P : Program} {w : World} {K : PySem.W.Frag} {mg mb : Str → Option Value} {CX : CXT} {k : Nat} {fa a : Addr} {fd : FuncData} {x : Str} {sp : Sp} {s₁ : Shared} {vs : List Value} {ns : List Int}
    (KX : K.In s₁.heap) (hns : s₁.heap.Ns mainGlobals mg) (hb : s₁.heap.Ns builtinsNs mb) (hbb : ∀ x : Str, x ≠ "__name__" → mb x = bootBuiltins x) (hlim : s₁.heap.NoLimit) (hg : s₁.gens = #[])
    (ha : s₁.heap.get? a = some { cls := .type "list", data := .seq vs.toArray }) (hi : IntsAre vs ns) (hl : ns.length ≤ sizeLine) (hr : Room k callerA)
    (F : ∀ base : Heap, K.In base → base.Ns mainGlobals mg → FnG P w K mg base CX k fa fd [x] sp) (hbind : ∀ (s : Shared) (u : Value), BindsTo s fd ⟨[u], []⟩ [(x, u)])
    (hsp : ∀ H : Hp, Only H → SqL K H a (ns.map V.int) → sp [.ref a] H (fun v _ => v = .bl true) fun _ _ _ => False)
    (hCX : ∀ H e s', CX [] H s₁ (fun _ _ _ => False) e s' → False) :
    codeAny (model P w) callerA (.call (.ref fa) ⟨[.ref a], []⟩) (fun r s' => r = .ok (.ret (.bool true)) ∧ OldK s₁.heap s'.heap ∧ s'.os = s₁.os ∧ AllBare s'.gens) s₁ := by
  have lenV := hi.length
  obtain ⟨tr, htr⟩ : ∃ tr : Bool, tr = (K.lookup a).isNone := ⟨_, rfl⟩
  obtain ⟨T, hT⟩ : ∃ T : Hp, T = scrH a { cls := .type "list", data := .seq vs.toArray } (ns.map V.int) tr := ⟨_, rfl⟩
  have off : ∀ c u, T c = some u → c = a ∧ K.lookup a = none ∧ u = .frz { cls := .type "list", data := .seq vs.toArray } (.lst (ns.map V.int)) := fun c u e => by
    obtain ⟨h1, h2, h3⟩ := scrH_some (hT ▸ e)
    exact ⟨h2, by simpa [h1] using htr, h3⟩
  have none_of : ∀ {c : Addr}, (∀ u, T c ≠ some u) → T c = none := fun {c} h => by
    cases e : T c with
    | none => rfl
    | some u => exact absurd e (h u)
  have held : HOk P w T s₁.heap := fun c u e => by
    obtain ⟨rfl, _, rfl⟩ := off c u e
    exact ⟨ha, by rw [List.length_map]; exact hl, vs, _, vals_ints hi, ha⟩
  have down : ∀ {c : Addr} {m : Str → Option Value}, s₁.heap.Ns c m → (hidT s₁.heap T).Ns c m := fun {c m} h => by
    obtain ⟨o, es, ep, e, d, r⟩ := h
    refine ⟨o, es, ep, hidT_get e (none_of fun u z => ?_), d, r⟩
    obtain ⟨rfl, _⟩ := off c u z
    rw [ha] at e
    rw [← Option.some.inj e] at d
    cases d
  have inB : K.In (hidT s₁.heap T) := fun c o e => hidT_get (KX c o e) (none_of fun u z => by
    obtain ⟨rfl, h2, _⟩ := off c u z
    rw [h2] at e
    cases e)
  have lim : (hidT s₁.heap T).NoLimit := hlim.elim fun mc h => ⟨mc, down h.1, h.2⟩
  have only : Only T := fun c => by
    cases e : T c with
    | none => exact Or.inl rfl
    | some u => exact Or.inr ⟨_, _, congrArg some (off c u e).2.2⟩
  have seq : SqL K T a (ns.map V.int) := by
    cases e : K.lookup a with
    | none =>
      refine Or.inl (Or.inr ⟨{ cls := .type "list", data := .seq vs.toArray }, ?_⟩)
      rw [hT]
      exact if_pos ⟨by rw [htr, e]; rfl, rfl⟩
    | some o =>
      have e2 := KX a o e
      rw [ha] at e2
      cases e2
      exact Or.inr ⟨_, vs.toArray, _, e, rfl, rfl, rfl, by rw [List.size_toArray, lenV]; exact hl, by simpa using vals_ints hi⟩
  have start0 : Env0 P w K mg (hidT s₁.heap T) callerA [] s₁ T := ⟨rfl, ⟨inB, down hns, ⟨mb, down hb, hbb⟩, lim⟩, fun _ _ e => of_hidT e, Nat.le_of_eq (hidT_size _ _), trivial, fun c hc => absurd hc List.not_mem_nil, held, AllBare.of_eq hg⟩
  refine codeAny_mono ((F _ inB (down hns)).run callerA [] s₁ T ⟨[.ref a], []⟩ [.ref a] [.ref a] _ _ hr rfl start0 (hbind s₁ _) (.cons rfl .nil) (hsp T only seq)) (fun r s' out => ?_)
  rcases r with e | (_ | _ | _ | u)
  · exact (hCX T e s' out).elim
  all_goals try exact False.elim out
  obtain ⟨v, T', hos, bare, un, held', rv, ev⟩ := out
  have ev' : v = .bl true := ev
  subst ev'
  have eu : u = Value.bool true := rv
  subst eu
  refine ⟨rfl, OldK.of_keep fun c o e => ?_, hos, bare⟩
  cases q : T c with
  | none => exact un.keep c o e q List.not_mem_nil List.not_mem_nil
  | some y =>
    obtain ⟨_, _, rfl⟩ := off c y q
    have e1 := (held c _ q).1
    rw [e] at e1
    rw [Option.some.inj e1]
    exact (held' c _ (un.frzs c _ _ q)).1
theorem walk_ofG {l : PySem.W.OpenLaw} {n k : Nat} {q : Program} {loose : List Str} {XP : (Str → Option Value) → Heap → Prop} {YP : World → Heap → Prop} {d : DefRec} {CX : CXT} {x : Str}
    (hn : l.most = some n) (hn2 : n ≤ sizeLine) (hdf : d.params.defaults = []) (hr : Room k callerA)
    (F : ∀ (w : World) (mg : Str → Option Value) (fa : Addr) (h : Heap), YP w h → h.Ns mainGlobals mg → mg d.name = some (.ref fa) →
      ∃ (K : PySem.W.Frag) (fd : FuncData) (sp : Sp), K.In h ∧ (∀ (s : Shared) (u : Value), BindsTo s fd ⟨[u], []⟩ [(x, u)]) ∧
        (∀ (H : Hp) (a : Addr) (ns : List Int), ns.length ≤ n → Only H → SqL K H a (ns.map V.int) → sp [.ref a] H (fun v _ => v = .bl true) fun _ _ _ => False) ∧
        ∀ base : Heap, K.In base → base.Ns mainGlobals mg → FnG l.prog w K mg base CX k fa fd [x] sp)
    (hCX : ∀ (H : Hp) (s : Shared) (e : Value) (s' : Shared), CX [] H s (fun _ _ _ => False) e s' → False) :
    PySem.W.WalkO q loose XP YP l.row.toRowW d [] (fun f vs => PySem.call f vs) := by
  refine Att.attach_call hn hdf fun w s₀ s₁ mg mb fa o pm cd doc a vs ns G Y ho hd hcd hmg hobj hints hlen hg => ?_
  obtain ⟨K, fd, sp, KX, hb, hsp, hF⟩ := F w mg fa _ Y G.T.g hmg
  exact law_callG KX G.T.g G.T.b G.T.builtins G.T.nolimit hg hobj hints (Nat.le_trans hlen hn2) hr hF hb (fun H hO hS => hsp H a ns hlen hO hS) fun H e s' => hCX H s₁ e s'

/-! ### str of data -/
section
variable {K : PySem.W.Frag} {H : Hp}
mutual
theorem dp_noDict : ∀ (d : PyData) (v : V), Dp K H v d → d.hasDict = false
  | .none, _, _ => rfl
  | .bool _, _, _ => rfl
  | .int _, _, _ => rfl
  | .str _, _, _ => rfl
  | .list ds, _, h => by
    cases h with
    | lst hs ha => exact dp_noDictAll ds _ ha
  | .tuple ds, _, h => by
    cases h with
    | tup hs ha => exact dp_noDictAll ds _ ha
  | .dict _, _, h => by cases h
theorem dp_noDictAll : ∀ (ds : List PyData) (vs : List V), DpAll K H vs ds → PyData.hasDictAll ds = false
  | [], _, _ => rfl
  | d :: ds, _, h => by
    cases h with
    | cons h1 h2 => exact Bool.or_eq_false_iff.mpr ⟨dp_noDict d _ h1, dp_noDictAll ds _ h2⟩
end
end
section
variable {X : Cx}
/-- str(a list | a tuple), nothing being shown -/
theorem call_str_dp (hg : X.A.guards = some []) (hu : X.A.units + 64 < cLine) : CallR X (.type "str") (fun xs H Q => ∃ a d, xs = [.ref a] ∧ Dp X.K H (.ref a) d ∧ d.showable = true ∧ d.depth ≤ 60 ∧ d.shown.length ≤ sizeLine ∧ Q (.str d.shown) H) := by
  intro pins s σ H xs us Q I r h
  obtain ⟨a, d, rfl, hd, hs, hz, hl, q⟩ := h
  obtain ⟨u, rfl, r1⟩ := vals1 r
  cases r1
  obtain ⟨as, hr⟩ := Dp.reads I d _ _ hd rfl
  refine str_of_reads (h₀ := s.heap) hr hs (PyData.noDict_hsm (dp_noDict d _ hd)) hg (by omega) (fun _ _ e => e) (fun h' u tk hk => ?_) hl
  exact ⟨.str _, H, I.kept hk, ⟨_, rfl⟩, q⟩
theorem call_str_non : CallR X (.type "str") (fun xs H Q => xs = [.non] ∧ Q (.str "None") H) := by
  intro pins s σ H xs us Q I r h
  obtain ⟨rfl, q⟩ := h
  obtain ⟨u, rfl, r1⟩ := vals1 r
  cases r1
  exact PySem.P.str_of_none ⟨.str _, H, I.tok _, ⟨_, rfl⟩, q⟩
theorem CallR.or {f : Value} {r r' : List V → Hp → VK → Prop} (h : CallR X f r) (h' : CallR X f r') : CallR X f (fun xs H Q => r xs H Q ∨ r' xs H Q) := by
  intro pins s σ H xs us Q I rx q
  rcases q with q | q
  · exact h pins s σ H xs us Q I rx q
  · exact h' pins s σ H xs us Q I rx q
/-- str of None, an int, a list or a tuple of data -/
def rStr (K : PySem.W.Frag) : List V → Hp → VK → Prop := fun xs H Q => ∃ v d, xs = [v] ∧ Dp K H v d ∧ (∀ x, v ≠ .str x) ∧ (∀ b, v ≠ .bl b) ∧ d.showable = true ∧ d.depth ≤ 60 ∧ d.shown.length ≤ sizeLine ∧ Q (.str d.shown) H
theorem call_strD (hg : X.A.guards = some []) (hu : X.A.units + 64 < cLine) : CallR X (.type "str") (rStr X.K) := by
  intro pins s σ H xs us Q I r h
  obtain ⟨v, d, rfl, hd, n1, n2, hs, hz, hl, q⟩ := h
  cases v with
  | non =>
    cases hd
    rw [PyData.shown_none] at q
    exact call_str_non pins s σ H _ us Q I r ⟨rfl, q⟩
  | bl b => exact absurd rfl (n2 b)
  | int i =>
    cases hd
    rw [PyData.shown_int] at q
    refine call_str_int pins s σ H _ us Q I r ⟨i, rfl, ?_, q⟩
    simpa [PyData.showable] using hs
  | str x => exact absurd rfl (n1 x)
  | byt b => cases hd
  | flt b => cases hd
  | ref a => exact call_str_dp hg hu pins s σ H _ us Q I r ⟨a, d, rfl, hd, hs, hz, hl, q⟩
  | ty n => cases hd
end

/-! ### first, *rest = a list -/
section
variable {prog : Program} {w : World} {A : Around} {E : Value → Shared → Prop} {s : Shared}
theorem walks_shift {I : Addr} {fp wr : List Addr} {G : Array GenState → Array GenState → Prop} {n : Nat} {P : Nat → Value → Prop} {St : Nat → Shared → Prop} (W : WalksS prog w A I fp wr G (n + 1) P St) :
    WalksS prog w A I fp wr G n (fun i => P (i + 1)) (fun i => St (i + 1)) where
  sub := W.sub
  grefl := W.grefl
  gtrans := W.gtrans
  frame := fun i s h' tk st ht hk => W.frame (i + 1) s h' tk st ht hk
  item := fun i s Q E hi st hQ => W.item (i + 1) s Q E (by omega) st hQ
  done := fun s Q E st hQ => W.done s Q E st hQ
  self := fun i s Q E st hQ => W.self (i + 1) s Q E st hQ

theorem items_star {l : Addr} {v : Value} {vs : List Value} {Q : List Value → Shared → Prop} (hh : A.handled = none) (hl : s.heap.IsList l (v :: vs).toArray) (hz : vs.length ≤ sizeLine)
    (hQ : ∀ (h' : Heap) (tk : Nat), (∀ b o, s.heap.get? b = some o → h'.get? b = some o) → Q [v, .ref h'.objs.size] { s with heap := h'.push { cls := .type "list", data := .seq vs.toArray }, toks := tk }) : wpAny (model prog w) A (unpackItems (.ref l) 2 (some 1)) Q E s := by
  have hlt : l ≠ s.heap.objs.size := by obtain ⟨o, ho, _⟩ := hl; exact Nat.ne_of_lt (Heap.lt_size ho)
  have hll : l < s.heap.objs.size := by obtain ⟨o, ho, _⟩ := hl; exact Heap.lt_size ho
  unfold unpackItems
  refine wpAny_bind ?_
  · unfold notIterableAtAll
    refine wpAny_bind (wpAny_specialOf hl.typeIs slot_list_iter.lookup ?_)
    refine wpAny_pure ?_
    simp only [Bool.false_eq_true, if_false]
    refine wpAny_bind (wpAny_holding (wpAny_pyIter_list hl ?_))
    refine wpAny_bind (wpAny_holding (PySem.W.kun_draw hlt 1 0 _ _ ⟨_, Heap.get?_push_size _ rfl, rfl, rfl⟩ (hl.push _) (by simp) fun h₁ hit₁ hs₁ => ?_))
    have hall : List.take 1 (List.drop 0 (v :: vs).toArray.toList) = [v] := rfl
    rw [hall]
    rw [if_neg (by simp)]
    have hl₁ : h₁.IsList l (v :: vs).toArray := (hl.push _).extBut hs₁.extBut hlt
    have W := walks_shift (n := vs.length) (Walks.list (prog := prog) (w := w) (A := A.in1) hh s.heap.objs.size l hlt (v :: vs).toArray).toS
    have hsz : ∀ b ∈ [s.heap.objs.size, l], b < h₁.objs.size := by
      intro b hb
      obtain ⟨o1, ho1, _⟩ := hit₁
      obtain ⟨o2, ho2, _⟩ := hl₁
      rcases List.mem_cons.mp hb with rfl | hb
      · exact Heap.lt_size ho1
      · rw [List.mem_singleton.mp hb]
        exact Heap.lt_size ho2
    refine wpAny_bind (wpAny_holding (wpAny_collect_iter (T := "list_iterator") (Or.inr (Or.inr (Or.inl rfl))) W (fun i s st => ?_) (show _ ∧ _ from ⟨hit₁, hl₁⟩) hsz (by simp) (fun s' acc hm hacc => ?_) hz))
    · obtain ⟨o, ho, hc, _⟩ := st.1
      exact ⟨o, ho, hc⟩
    have ea : acc.toList = vs := by
      obtain ⟨h1, h2⟩ := hacc
      refine List.ext_getElem? fun i => ?_
      by_cases hi : i < vs.length
      · have h3 : acc[i]? = some acc[i] := by simp [h1, hi]
        have h4 := h2 i _ h3
        have h5 : (v :: vs)[i + 1]? = some acc[i] := by simpa using h4
        rw [List.getElem?_cons_succ] at h5
        rw [h5]
        simpa using h3
      · have h3 : acc.toList.length = vs.length := by
          rw [Array.length_toList]
          exact h1
        rw [List.getElem?_eq_none (by omega), List.getElem?_eq_none (by omega)]
    rw [ea]
    rw [if_neg (by simp)]
    have h6 : vs.length - (2 - 1 - 1) = vs.length := by omega
    simp only [h6, List.take_length, List.drop_length, List.append_nil]
    obtain ⟨hp, gs, dr, tk, os⟩ := s'
    have e1 : gs = s.gens := hm.gens
    have e2 : dr = s.drawn := hm.drawn
    have e3 : os = s.os := hm.os
    subst e1 e2 e3
    refine wpAny_bind (wpAny_newList ?_ hz)
    refine wpAny_pure ?_
    refine hQ hp tk fun b o e => ?_
    have hb : b ≠ s.heap.objs.size := Nat.ne_of_lt (Heap.lt_size e)
    exact hm.heap b o (by simpa using hb) (hs₁.extBut b o hb (Heap.get?_push_of_some _ e))
end
/-- first, *rest = l -/
def gStar (K : PySem.W.Frag) (t : TGs) : TG := fun v σ H Q => ∃ a x xs, v = .ref a ∧ SqL K H a (x :: xs) ∧ ∀ p, H p = none → t [x, .ref p] σ (upd H p (.lst xs)) Q
section
variable {X : Cx} {pos : Pos}
theorem pg_star {es : List Expr} {k : Nat} {t : TGs} (hc : X.calm = true) (h : PGs X es t)
    (hn : (assignEach es X.env).length = 2 := by rfl) (hst : (assignEach es X.env).findIdx? (·.1) = some 1 := by rfl) : PG X (.Tuple es k pos) (gStar X.K t) := by
  refine ⟨fun pins s σ H v u Q I r hw => ?_⟩
  obtain ⟨a, x, xs, e1, hq, hw⟩ := hw
  subst e1
  cases r
  obtain ⟨its, rv, pl, hz⟩ := I.list hq
  cases rv with
  | @cons _ vx _ vr rx rr =>
  rw [PyProof.Rows.assign_Tuple]
  refine wpAny_bind (wpAny_standAt ?_)
  unfold unpack
  rw [hn, hst]
  have hz2 : vr.length ≤ sizeLine := by
    have e1 : xs.length = vr.length := rr.length
    have hz3 : xs.length + 1 ≤ sizeLine := by simpa using hz
    omega
  refine wpAny_bind (wpAny_holding (items_star (I.ok.hd hc) pl.isList hz2 fun h' tk hk => ?_))
  have I1 : Inv X pins σ H { s with heap := h', toks := tk } := I.kept hk
  have hf : H h'.objs.size = none := I1.hok.fresh (Nat.le_refl _)
  have I2 : Inv X pins σ (upd H h'.objs.size (.lst xs)) { s with heap := h'.push { cls := .type "list", data := .seq vr.toArray }, toks := tk } :=
    I1.laid (fun b u e => Heap.get?_push_of_some _ e) (Nat.le_refl _) ⟨by rw [rr.length]; exact hz2, vr, 0, rr, Heap.get?_push_size _ rfl⟩
  exact h.run pins _ σ _ [x, .ref h'.objs.size] _ Q I2 (.cons rx (.cons rfl .nil)) (hw _ hf)
end
end XB

set_option maxRecDepth 100000
set_option maxHeartbeats 4000000
/-! ## min(a list of objects, key=a bound method that tells (a bool, an int, an int)) -/
namespace XB
open PySem PySem.Spec PyProof.Rows L2
abbrev KT : Type := Bool × Int × Int
def kV3 (k : KT) : List V := [.bl k.1, .int k.2.1, .int k.2.2]
def kD3 (k : KT) : PyData := .tuple [.bool k.1, .int k.2.1, .int k.2.2]
def kLt (a b : KT) : Bool := (!a.1 && b.1) || (!(!b.1 && a.1) && (decide (a.2.1 < b.2.1) || (!decide (b.2.1 < a.2.1) && decide (a.2.2 < b.2.2))))
theorem kLt_eq (a b : KT) : PySem.W.dataLt (kD3 a) (kD3 b) = kLt a b := by
  obtain ⟨a1, a2, a3⟩ := a
  obtain ⟨b1, b2, b3⟩ := b
  cases a1 <;> cases b1 <;> simp [PySem.W.dataLt, kD3, PySem.W.keyToks, PySem.W.keyToksAll, kLt, PyProof.Rows.lexLt, itemOrd, itemLt]

theorem relV_bool {v : V} {b : Bool} (r : RelV v (.bool b)) : v = .bl b := by
  cases v <;> simp [L2.RelV] at r
  rw [r]
theorem relV_int {v : V} {i : Int} {t : Tok} (r : RelV v (.int i t)) : v = .int i := by
  cases v <;> simp [L2.RelV] at r
  rw [r]
/-- a tuple of a key at p -/
def KAt (h : Heap) (p : Addr) (k : KT) : Prop := ∃ t u, IsTup h p #[.bool k.1, .int k.2.1 t, .int k.2.2 u]
theorem KAt.of {P : Program} {w : World} {H : Hp} {h : Heap} {p : Addr} {k : KT} (x : ObjOk P w H h p (.tup (kV3 k))) : KAt h p k := by
  obtain ⟨_, its, rv, ht⟩ := x
  cases rv with
  | cons r1 rv =>
    cases rv with
    | cons r2 rv =>
      cases rv with
      | cons r3 rv =>
        cases rv
        cases r1
        obtain ⟨t, rfl⟩ := r2
        obtain ⟨u, rfl⟩ := r3
        exact ⟨t, u, ht⟩
theorem KAt.back {P : Program} {w : World} {H : Hp} {h : Heap} {p : Addr} {k : KT} {xs : List V} (y : KAt h p k) (x : ObjOk P w H h p (.tup xs)) : xs = kV3 k := by
  obtain ⟨_, its, rv, o1, h1, _, n1, d1⟩ := x
  obtain ⟨t, u, o2, h2, _, n2, d2⟩ := y
  rw [h1] at h2
  rw [← Option.some.inj h2, d1] at d2
  injection d2 with d3 _
  have d4 : its = [.bool k.1, .int k.2.1 t, .int k.2.2 u] := by simpa using congrArg Array.toList d3
  subst d4
  cases rv with
  | @cons a1 _ _ _ r1 rv =>
    cases rv with
    | @cons a2 _ _ _ r2 rv =>
      cases rv with
      | @cons a3 _ _ _ r3 rv =>
        cases rv
        rw [relV_bool r1, relV_int r2, relV_int r3] <;> rfl
theorem KAt.reads {h : Heap} {p : Addr} {k : KT} (x : KAt h p k) : ∃ as, Reads h (.ref p) (kD3 k) as := by
  obtain ⟨t, u, o, ho, hc, n, hd⟩ := x
  exact ⟨_, Reads.tuple ho hc hd (ReadsAll.cons (Reads.bool _) (ReadsAll.cons (Reads.int _ t) (ReadsAll.cons (Reads.int _ u) ReadsAll.nil)))⟩

section
variable {X : Cx} {pins : List (Addr × Obj)} {σ : L2.St} {H : Hp} {s : Shared} {S : Addr} {o : Obj} {u : HO}
/-- an untracked thing of ours is held as it is for a while -/
theorem inv_hold (I : Inv X pins σ H s) (f : FpOk X pins H S) (e : s.heap.get? S = some o) : Inv X pins σ (upd H S (.frz o (.own S))) s := by
  have ne : ∀ b x, H b = some x → b ≠ S := fun b x q z => by
    rw [z, f.1] at q
    cases q
  have hok : HOk X.prog X.w (upd H S (.frz o (.own S))) s.heap := fun b x q => by
    by_cases hb : b = S
    · subst hb
      rw [upd_same] at q
      cases q
      exact ⟨e, o, e⟩
    · rw [upd_ne hb] at q
      exact (I.hok b x q).stay (fun _ _ _ z => z) (fun c z => by rw [upd_ne (ne c _ z)]; exact z) fun c xs z => by rw [upd_ne (ne c _ z)]; exact z
  have k := f.2.2.2
  refine I.step (h' := s.heap) (g' := s.gens) (t' := s.toks) (d' := s.drawn) (ch := [S]) (fun b hb => ?_) (fun b x _ _ _ z _ => z) (fun b x _ _ _ z _ => ⟨x.slots, z⟩) (fun b x hb _ z => ?_) (fun b x _ z => ⟨x, z⟩)
    (fun b xs z => by rw [upd_ne (ne b _ z)]; exact z) (fun b x xs z => by rw [upd_ne (ne b _ z)]; exact z) (fun b ps z => ⟨#[], by rw [upd_ne (ne b _ z), z]; simp⟩) (fun m z => z) hok I.bare
  · rw [List.mem_singleton.mp hb]
    exact ⟨k.1, f.2.1, k.2.1, k.2.2⟩
  · rw [upd_ne (by simpa using hb)]
    exact z
/-- .. and let go -/
theorem inv_drop {H0 H1 : Hp} {s0 : Shared} (I0 : Inv X pins σ H0 s0) (n0 : H0 S = none) (I : Inv X pins σ H s) (e : H S = some (.frz o (.own S))) (n1 : H1 S = none) (r : ∀ b, b ≠ S → H1 b = H b) : Inv X pins σ H1 s := by
  have back : ∀ b, H b = none → H1 b = none := fun b z => by
    by_cases hb : b = S
    · rw [hb]
      exact n1
    · rw [r b hb]
      exact z
  have cv : ∀ b x, H b = some x → (∀ o u, x ≠ .frz o u) → H1 b = some x := fun b x z n => by
    by_cases hb : b = S
    · rw [hb, e] at z
      exact absurd (Option.some.inj z).symm (n _ _)
    · rw [r b hb]
      exact z
  refine ⟨I.ok, I.os, I.bare, ⟨I.base.keep, I.base.slot, fun b x q z hx => back b (I.base.free b x q z hx), I.base.there, fun b xs z => cv b _ (I.base.tups b xs z) (fun _ _ q => nomatch q), fun b x u z => ?_, fun b ps z => ?_⟩, I.loc, I.cell, back _ I.free, fun x c z => back c (I.freeC x c z), fun p hp => ?_, fun b x z => ?_, I.len⟩
  · have hb : b ≠ S := fun q => by
      have z0 := I0.base.frzs b x u z
      rw [q, n0] at z0
      cases z0
    rw [r b hb]
    exact I.base.frzs b x u z
  · obtain ⟨more, q⟩ := I.base.tbls b ps z
    exact ⟨more, cv b _ q (fun _ _ q => nomatch q)⟩
  · obtain ⟨q1, q2, q3, q4, q5⟩ := I.pin p hp
    exact ⟨q1, back _ q2, q3, q4, q5⟩
  · have hb : b ≠ S := fun q => by
      rw [q, n1] at z
      cases z
    rw [r b hb] at z
    exact (I.hok b x z).stay (fun _ _ _ q => q) (fun c q => cv c _ q (fun _ _ q => nomatch q)) fun c xs q => cv c _ q (fun _ _ q => nomatch q)
end

section
variable {X : Cx}
/-- the heap of a key's turn: H grown by tuples; the min's own list and iterator are not tracked -/
structure KJ (X : Cx) (pins : List (Addr × Obj)) (σ : L2.St) (H : Hp) (S I : Addr) (s : Shared) (H1 : Hp) : Prop where
  inv : Inv X pins σ H1 s
  same : Same H H1
  new : ∀ b o, H1 b = some o → H b = some o ∨ ∃ xs, o = .tup xs
  ns : H1 S = none
  ni : H1 I = none
  fs : FpOk X pins H S
  fi : FpOk X pins H I

theorem KJ.moved {pins : List (Addr × Obj)} {σ : L2.St} {H H1 : Hp} {S I : Addr} {s s' : Shared} (J : KJ X pins σ H S I s H1) (m : Moved [S, I] (fun a b => b = a) s s') : KJ X pins σ H S I s' H1 := by
  refine ⟨?_, J.same, J.new, J.ns, J.ni, J.fs, J.fi⟩
  obtain ⟨hp, gs, dr, tk, os⟩ := s'
  have e1 : gs = s.gens := m.gens
  have e2 : dr = s.drawn := m.drawn
  have e3 : os = s.os := m.os
  subst e1 e2 e3
  have nS : ∀ b u, H1 b = some u → b ≠ S ∧ b ≠ I := fun b u e => ⟨fun z => (by rw [z, J.ns] at e; exact nomatch e), fun z => (by rw [z, J.ni] at e; exact nomatch e)⟩
  have kp : ∀ b o, b ∉ [S, I] → s.heap.get? b = some o → hp.get? b = some o := m.heap
  refine J.inv.step (ch := [S, I]) (fun b hb => ?_) (fun b o _ _ hc e _ => kp b o hc e) (fun b o _ _ hc e _ => ⟨o.slots, kp b o hc e⟩) (fun _ _ _ _ n => n) (fun b o hc e => ⟨o, kp b o hc e⟩) (fun _ _ e => e) (fun _ _ _ e => e)
    (fun b ps e => ⟨#[], by rw [e]; simp⟩) (fun q hq => ?_) (fun b u e => ?_) J.inv.bare
  · rcases List.mem_cons.mp hb with rfl | hb
    · obtain ⟨_, h1, _, h2, h3, h4⟩ := J.fs
      exact ⟨h2, h1, h3, h4⟩
    · rw [List.mem_singleton.mp hb]
      obtain ⟨_, h1, _, h2, h3, h4⟩ := J.fi
      exact ⟨h2, h1, h3, h4⟩
  · obtain ⟨o, es, ep, ho, r⟩ := hq
    refine ⟨o, es, ep, kp _ o ?_ ho, r⟩
    have h1 := J.fs.2.1
    have h2 := J.fi.2.1
    simp [h1.symm, h2.symm]
  · refine (J.inv.hok b u e).stay (fun c v hc q => kp c v ?_ q) (fun _ q => q) fun _ _ q => q
    rcases hc with z | z
    · obtain ⟨n1, n2⟩ := nS b u e
      rw [z]
      simp [n1, n2]
    · obtain ⟨n1, n2⟩ := nS c _ z
      simp [n1, n2]

/-- what the key method tells of x, wherever the heap has grown -/
def KeyTells (sp : Sp) (H : Hp) (a : Addr) (x : V) (k : KT) : Prop := ∀ H1, Same H H1 → sp [.ref a, x] H1 (fun v H2 => ∃ p, v = .ref p ∧ H1 p = none ∧ H2 = upd H1 p (.tup (kV3 k))) E0
def rMinKey (K : PySem.W.Frag) (g : Addr) (sp : Sp) : List V → List V → Hp → VK → Prop := fun vs zs H Q => ∃ (l q a : Addr) (xs : List Addr) (kf : Nat → KT), vs = [.ref l] ∧ zs = [.ref q] ∧ SqL K H l (xs.map V.ref) ∧ H q = some (.met g a) ∧
  0 < xs.length ∧ (∀ i x, xs[i]? = some x → KeyTells sp H a (.ref x) (kf i)) ∧ ∀ x H1, xs[argBest (fun i j => kLt (kf i) (kf j)) (xs.length - 1)]? = some x → Same H H1 → Q (.ref x) H1

theorem refs_of : ∀ {xs : List Addr} {us : List Value}, Vals (xs.map V.ref) us → us = xs.map Value.ref
  | [], _, r => by cases r; rfl
  | x :: xs, _, r => by
    cases r with
    | cons r1 r2 =>
      cases r1
      rw [refs_of r2] <;> rfl

theorem call_minKey {k : Nat} {g : Addr} {fd : FuncData} {ps : List Str} {sp : Sp} (hc : X.calm = true) (F : FnOk X.prog X.w X.K X.mg X.base CX0 k g fd ps sp) (hr : Room (k + 1) X.A) (hb : Binds X.K fd ps []) :
    CallRK X (.builtin "min") [Str.ofString "key"] (rMinKey X.K g sp) := by
  intro pins s σ H vs zs us ws Q I r1 r2 h
  obtain ⟨l, q, a, xs, kf, rfl, rfl, hl, hq, hne, hkey, hQ⟩ := h
  obtain ⟨u, rfl, e1⟩ := vals1 r1
  obtain ⟨z, rfl, e2⟩ := vals1 r2
  cases e1
  cases e2
  show wpAny _ _ (call (.builtin "min") [.ref l] [(Str.ofString "key", .ref q)]) _ _ s
  obtain ⟨its, rv, pl, hz⟩ := I.list hl
  have ei := refs_of rv
  subst ei
  have hll : l < s.heap.objs.size := by obtain ⟨o, _, ho, _⟩ := pl; exact Heap.lt_size ho
  refine call_min_walkK (wpAny_pyIter_list pl.isList ?_)
  have hli : l ≠ s.heap.objs.size := Nat.ne_of_lt hll
  have sz : ((xs.map Value.ref).toArray).size = xs.length := by simp
  have W := (Walks.list (prog := X.prog) (w := X.w) (A := X.A.in1) (show X.A.in1.handled = none from I.ok.hd hc) s.heap.objs.size l hli (xs.map Value.ref).toArray).toS
  rw [sz] at W
  have I0 : Inv X pins σ H { s with heap := s.heap.push { cls := .type "list_iterator", data := .fields #[.ref l, .int 0 0] } } := I.kept (t' := s.toks) fun b o e => Heap.get?_push_of_some _ e
  have fI : FpOk X pins H s.heap.objs.size := I.fpOk (Nat.le_refl _) (I.hok.fresh (Nat.le_refl _))
  have fS : FpOk X pins H (s.heap.push { cls := .type "list_iterator", data := .fields #[.ref l, .int 0 0] }).objs.size := I0.fpOk (Nat.le_refl _) (I0.hok.fresh (Nat.le_refl _))
  have hSI : (s.heap.push { cls := .type "list_iterator", data := .fields #[.ref l, .int 0 0] }).objs.size ≠ s.heap.objs.size := by rw [Heap.size_push]; exact Nat.succ_ne_self _
  generalize hS : (s.heap.push { cls := .type "list_iterator", data := .fields #[.ref l, .int 0 0] }).objs.size = S at *
  generalize hI : s.heap.objs.size = It at *
  have fstk : ∀ {H1 : Hp} {s1 : Shared} {b : Addr}, Inv X pins σ H1 s1 → FpOk X pins H b → H1 b = none → b ∉ frs X.stack := fun {H1 s1 b} J f n hb => by
    rcases List.mem_cons.mp (J.stkSub b hb) with e | e
    · exact f.2.1 e
    · exact f.2.2.1 e
  refine ⟨It, [It, l], [It], fun a b => b = a, xs.length, _, _, fun s' => ∃ H1, KJ X pins σ H S It s' H1, fun i v s' => ∃ p, v = .ref p ∧ H p = none ∧ p ≠ S ∧ p ≠ It ∧ KAt s'.heap p (kf i), fun i j => kLt (kf i) (kf j), rfl, W, ⟨⟨_, by rw [← hI]; exact Heap.get?_push_size _ rfl, rfl, rfl⟩, pl.isList.push _⟩, ?bnd, hne,
    ⟨?keep, ?keepV, ?turn, ?cmp⟩, ⟨H, I0, Same.refl H, fun _ _ e => .inl e, fS.1, fI.1, fS, fI⟩, fun v s' hP hJ => ?_⟩
  case keep =>
    rintro s1 s2 ⟨H1, J⟩ m
    exact ⟨H1, J.moved m⟩
  case keepV =>
    rintro i v s1 s2 ⟨p, rfl, h1, h2, h3, t, u, o, ho, h4⟩ m
    exact ⟨p, rfl, h1, h2, h3, t, u, o, m.heap p o (by simp [h2, h3]) ho, h4⟩
  case turn =>
    rintro i v s1 o Q1 E1 hi hP ⟨H1, J⟩ hst hSo k
    have hx : ∃ x, xs[i]? = some x ∧ v = .ref x := by
      have hP' : (xs.map Value.ref)[i]? = some v := by simpa using hP
      rw [List.getElem?_map] at hP'
      cases e : xs[i]? with
      | none => rw [e] at hP'; cases hP'
      | some x => rw [e] at hP'; exact ⟨x, rfl, (Option.some.inj hP').symm⟩
    obtain ⟨x, hx, rfl⟩ := hx
    have fS1 : FpOk X pins H1 S := ⟨J.ns, J.fs.2⟩
    have I2 := inv_hold J.inv fS1 hSo
    have s2 : Same H (upd H1 S (.frz o (.own S))) := fun b y e => by
      rw [upd_ne (fun z => by rw [z, J.fs.1] at e; cases e)]
      exact J.same b y e
    have hq2 : (upd H1 S (.frz o (.own S))) q = some (.met g a) := s2 _ _ hq
    have hsp := hkey i x hx _ s2
    refine wpAny_call (call_met I2 hq2 (codeAny_mono (F.run X.A.in1 X.stack s1 _ ⟨[.ref a, .ref x], []⟩ [.ref a, .ref x] [.ref a, .ref x] _ _ hr.in1 I2.env0.in1 (by
      have hb2 := hb s1 [.ref a, .ref x] I2.kIn (F.len _ _ _ _ hsp)
      simpa using hb2) (.cons rfl (.cons rfl .nil)) hsp) (fun r s3 out => ?_)))
    rcases r with e | (_ | _ | _ | u)
    · exact False.elim out
    all_goals try exact False.elim out
    obtain ⟨y, H3, hos, bare, un, held, rv, p, rfl, hp, rfl⟩ := out
    cases rv
    have hpS : p ≠ S := fun z => by rw [z, upd_same] at hp; cases hp
    have hp1 : H1 p = none := by rw [upd_ne hpS] at hp; exact hp
    have I3 : Inv X pins σ _ s3 := I2.call' (ch := []) hos un held bare fun b hb => absurd hb List.not_mem_nil
    have e3 : (upd (upd H1 S (.frz o (.own S))) p (.tup (kV3 (kf i)))) S = some (.frz o (.own S)) := by rw [upd_ne hpS.symm, upd_same]
    have I4 : Inv X pins σ (upd H1 p (.tup (kV3 (kf i)))) s3 := inv_drop (H0 := H1) J.inv J.ns I3 e3 (by rw [upd_ne hpS.symm]; exact J.ns) fun b hb => by
      by_cases hbp : b = p
      · rw [hbp, upd_same, upd_same]
      · rw [upd_ne hbp, upd_ne hbp, upd_ne hb]
    have kp := KAt.of (I4.hok p _ upd_same)
    have stI : s3.heap.get? It = s1.heap.get? It := by
      obtain ⟨oi, hoi, _⟩ := hst.1
      rw [hoi]
      exact un.keep It oi hoi (by rw [upd_ne (fun z => hSI z.symm)]; exact J.ni) (fstk J.inv J.fi J.ni) List.not_mem_nil
    have hpI : p ≠ It := fun z => by
      obtain ⟨oi, hoi, hoc, _⟩ := hst.1
      obtain ⟨t, u, ot, hot, hoc2, _⟩ := kp
      rw [z, stI, hoi] at hot
      rw [← Option.some.inj hot, hoc] at hoc2
      exact absurd (Value.type.inj hoc2) (by decide)
    have J4 : KJ X pins σ H S It s3 (upd H1 p (.tup (kV3 (kf i)))) := ⟨I4, fun b y e => by
      have e1 := J.same b y e
      rw [upd_ne (fun z => by rw [z, hp1] at e1; cases e1)]
      exact e1, fun b y e => by
        by_cases hb : b = p
        · rw [hb, upd_same] at e
          exact .inr ⟨_, (Option.some.inj e).symm⟩
        · rw [upd_ne hb] at e
          exact J.new b y e, by rw [upd_ne hpS.symm]; exact J.ns, by rw [upd_ne hpI.symm]; exact J.ni, J.fs, J.fi⟩
    refine k (.ref p) s3 ⟨_, J4⟩ ⟨?_, ?_⟩ ?_ ⟨p, rfl, ?_, hpS, hpI, kp⟩ ?_
    · obtain ⟨oi, hoi, h2⟩ := hst.1
      exact ⟨oi, stI.trans hoi, h2⟩
    · obtain ⟨its2, rv2, pl2, _⟩ := I4.list (J4.same.seq hl)
      rw [refs_of rv2] at pl2
      exact pl2.isList
    · exact (I3.hok S _ e3).1
    · cases e : H p with
      | none => rfl
      | some y =>
        rw [J.same p y e] at hp1
        cases hp1
    · rintro j v' ⟨p2, rfl, n1, n2, n3, kt⟩
      refine ⟨p2, rfl, n1, n2, n3, ?_⟩
      cases e : H1 p2 with
      | none =>
        obtain ⟨t, u, ot, hot, hoc, n, hd⟩ := kt
        have e2 : (upd H1 S (.frz o (.own S))) p2 = none := by
          rw [upd_ne n2]
          exact e
        by_cases nf : p2 ∈ frs X.stack
        · obtain ⟨sl, hsl⟩ := un.slot p2 ot hot e2 nf List.not_mem_nil
          exact ⟨t, u, _, hsl, hoc, n, hd⟩
        · exact ⟨t, u, ot, un.keep p2 ot hot e2 nf List.not_mem_nil, hoc, n, hd⟩
      | some y =>
        rcases J.new p2 y e with z | ⟨ys, rfl⟩
        · rw [n1] at z
          cases z
        · have n4 : p2 ≠ p := fun z => by
            rw [z, hp1] at e
            cases e
          have ey := kt.back (J.inv.hok p2 _ e)
          rw [ey] at e
          exact KAt.of (I4.hok p2 _ (by rw [upd_ne n4]; exact e))
  case cmp =>
    rintro i j ki kj s1 Q1 E1 _ ⟨p, rfl, _, _, _, kp⟩ ⟨p2, rfl, _, _, _, kp2⟩ hq1
    obtain ⟨as, r1⟩ := kp.reads
    obtain ⟨bs, r2⟩ := kp2.reads
    rw [← kLt_eq] at hq1
    exact PySem.W.rcLt_alike _ _ _ _ _ _ _ _ r1 r2 rfl (fun z => nomatch z) (by
      have := hr.units
      show X.A.units + 1 + min 1 1 < _
      omega) _ _ _ _ hq1
  case bnd =>
    intro b hb
    rw [← hS, Heap.size_push, hI]
    rcases List.mem_cons.mp hb with rfl | hb
    · exact Nat.lt_succ_self _
    · rw [List.mem_singleton.mp hb]
      exact Nat.lt_succ_of_lt hll
  · have hP' : (xs.map Value.ref)[argBest (fun i j => kLt (kf i) (kf j)) (xs.length - 1)]? = some v := by simpa using hP
    rw [List.getElem?_map] at hP'
    cases e : xs[argBest (fun i j => kLt (kf i) (kf j)) (xs.length - 1)]? with
    | none => rw [e] at hP'; cases hP'
    | some x =>
      rw [e] at hP'
      have ev : Value.ref x = v := Option.some.inj hP'
      subst ev
      obtain ⟨H1, J⟩ := hJ
      exact ⟨.ref x, H1, J.inv, rfl, hQ x H1 e J.same⟩
end
end XB

set_option maxRecDepth 100000
set_option maxHeartbeats 4000000
/-! ## sorted(a list of objects, key=a def that tells one int attribute) -/
namespace XB
open PySem PySem.Spec PyProof.Rows L2
section
variable {X : Cx} {pins : List (Addr × Obj)} {σ : L2.St} {H : Hp} {s : Shared} {x qual name fld : Str} {params : Arguments} {scope : Scope} {kws : List (Str × V)} {f a C dx : Addr} {fd : FuncData} {fs : List (Str × V)} {i : Int} {p1 p2 p3 : Pos}
theorem attr_key (I : Inv X pins σ H s) (F : FunD X.K name qual params [.Return (some (.Attribute (.Name x p1) fld p2)) p3] scope [] kws f fd) (S : FnScope [x] [x] scope) (hb : Binds X.K fd [x] []) {A : Around} (hA : Env0 X.prog X.w X.K X.mg X.base A X.stack s H) (hr : Room 1 A)
    (hH : H a = some (.ins C dx fs)) (hC : Cls X.K C) (hN : NoAttr X.K C fld) (hl : fs.lookup fld = some (.int i)) (hd : (x == ("__debug__" : Str)) = false) (hcd2 : (x == ("__classdict__" : Str)) = false)
    (hatt : ∀ env : Env, attributeBase (.Name x p1) fld env (eval (.Name x p1) env) = eval (.Name x p1) env) :
    wpAny (model X.prog X.w) A (call (.ref f) [.ref a]) (PySem.W.KeyPure (.int i) s) (fun _ _ => False) s := by
  have bound : BindsTo s fd ⟨[.ref a], []⟩ [(x, .ref a)] := by simpa using hb s [.ref a] I.kIn rfl
  obtain ⟨oc, od, dV, kV, doc, pm, an, cdv, ct, osl, rfl, lk, hcd, _, _⟩ := F.ex
  have inK := I.kIn
  refine wpAny_call (codeAny_call_function hr.depth (inK _ _ lk) rfl S.co S.gen rfl (PySem.W.codeRec_of inK hcd) (bound _ _ _ _ (wpAny_newFunctionEnv_cells S.kind (fun y hy => ?_) fun env he s1 z => ?_)))
  · rcases S.par y.1 (by
      have := List.mem_singleton.mp hy
      rw [this]
      exact List.mem_singleton.mpr rfl) with q | q
    · exact Or.inl q
    · exact Or.inr ⟨q, PySem.W.cellsFrom_some _ _ _ (Or.inl q)⟩
  · subst he
    have lim := I.nolimit.keeps z.toInCall.keep
    have J := inv_start (CX := CX0) (E := E0) (cd := cdv) (qual := qual) S hr.hd hA (vs := [V.ref a]) (us := [Value.ref a]) rfl (.cons rfl .nil) z
    obtain ⟨h1, tk, e1, kp⟩ := z.done
    obtain ⟨m, hn, hv⟩ := J.loc
    obtain ⟨u, ru, lo⟩ := hv 0 x (.ref a) rfl rfl (by
      rcases S.par x (List.mem_singleton.mpr rfl) with q | q
      · exact Or.inl q
      · exact Or.inr (Or.inl q))
    cases ru
    obtain ⟨mA, O, r, _, _, _⟩ := ins_get J.hok hH
    obtain ⟨v, hmv, rv⟩ := RelO.some_of (v := V.int i) (o := mA fld) (by rw [← hl]; exact r fld)
    obtain ⟨t, rfl⟩ := id rv
    refine ⟨lim, codeAny_func (wpAny_execs_cons (wpAny_Return_some (attr_of (hatt _) ?_)))⟩
    have res : PySem.W.KeyPure (.int i) s (.int i t) { s1 with toks := s1.toks + 1 } := ⟨h1, tk + 1, by rw [e1], kp, Reads.int i t⟩
    have fin : ∀ {A' : Around} {Q : Value → Shared → Prop} {E : Value → Shared → Prop}, Q (.int i t) { s1 with toks := s1.toks + 1 } → wpAny (model X.prog X.w) A' (getAttr (.ref a) fld true) Q E s1 := fun q => get_map J.kIn O (hC.get fld) hC.hd hN hmv (handed_of rv) q
    rcases lo with ⟨hk, hm⟩ | ⟨hk, c, hc, hcell⟩
    · exact wpAny_Name (wpAny_loadName_local J.ok.kind hk hn hm (fin res)) hd
    · rcases hk with hk | hk
      · exact wpAny_Name (wpAny_loadName_cell J.ok.kind hk hc hcell (fin res)) hd
      · exact wpAny_Name (wpAny_loadName_free J.ok.kind hk hc hcell (fin res) hcd2) hd
/-- sorted(l, key=f), f a def that tells the attribute fld, an int *-/
def rSortKey (K : PySem.W.Frag) (f C : Addr) (fld : Str) : List V → List V → Hp → VK → Prop := fun vs zs H Q => ∃ (l : Addr) (xs : List Addr) (ks : Addr → Int), vs = [.ref l] ∧ zs = [.ref f] ∧ SqL K H l (xs.map V.ref) ∧
  (∀ x, x ∈ xs → ∃ dx fs, H x = some (.ins C dx fs) ∧ fs.lookup fld = some (.int (ks x))) ∧ ∀ p, H p = none → Q (.ref p) (upd H p (.lst ((xs.mergeSort fun a b => decide (ks a ≤ ks b)).map V.ref)))
theorem each_refs {R : Value → Addr → Prop} (h : ∀ v x, R v x → v = .ref x) : ∀ {vs : List Value} {xs : List Addr}, PySem.W.EachIs R vs xs → vs = xs.map Value.ref
  | _, _, .nil => rfl
  | _, _, .cons r t => by rw [h _ _ r, each_refs h t] <;> rfl
theorem each_self : ∀ xs : List Addr, PySem.W.EachIs (fun (v : Value) x => v = .ref x) (xs.map Value.ref) xs
  | [] => .nil
  | x :: xs => .cons rfl (each_self xs)
theorem vals_refs : ∀ xs : List Addr, Vals (xs.map V.ref) (xs.map Value.ref)
  | [] => .nil
  | _ :: xs => .cons rfl (vals_refs xs)
theorem sorted_key_args (a v : Value) : argsOk "sorted" ⟨[a], [(Str.ofString "key", v)]⟩ := by unfold argsOk; kernel_rfl
theorem sort_key_args (a v : Value) : argsOk "list.sort" ⟨[a], [(Str.ofString "key", v)]⟩ := by unfold argsOk; kernel_rfl
theorem call_sortKey {X : Cx} {x qual name fld : Str} {params : Arguments} {scope : Scope} {kws : List (Str × V)} {f C : Addr} {fd : FuncData} {p1 p2 p3 : Pos} (F : FunD X.K name qual params [.Return (some (.Attribute (.Name x p1) fld p2)) p3] scope [] kws f fd) (S : FnScope [x] [x] scope) (hb : Binds X.K fd [x] [])
    (hr : Room 3 X.A) (hC : Cls X.K C) (hN : NoAttr X.K C fld) (hd : (x == ("__debug__" : Str)) = false := by decide) (hcd2 : (x == ("__classdict__" : Str)) = false := by decide)
    (hatt : ∀ env : Env, attributeBase (.Name x p1) fld env (eval (.Name x p1) env) = eval (.Name x p1) env := by intro _; rfl) : CallRK X (.builtin "sorted") [Str.ofString "key"] (rSortKey X.K f C fld) := by
  intro pins s σ H vs zs us ws Q I r1 r2 h
  obtain ⟨l, xs, ks, rfl, rfl, hl, hx, hQ⟩ := h
  obtain ⟨u, rfl, e1⟩ := vals1 r1
  obtain ⟨z, rfl, e2⟩ := vals1 r2
  cases e1
  cases e2
  show wpAny _ _ (call (.builtin "sorted") [.ref l] [(Str.ofString "key", .ref f)]) _ _ s
  obtain ⟨its, rv, pl, hz⟩ := I.list hl
  have ei := refs_of rv
  subst ei
  have hz2 : xs.length ≤ sizeLine := by simpa using hz
  refine PySem.W.sorted_key_data (β := Addr) (R := fun v x => v = .ref x) (bs := xs) (b := false) (fun x => .int (ks x)) pl.isList (each_self xs) (fun d h1 d' h2 => ?_) (Or.inr fun d h1 => ?_) hz2 (fun x _ => ?_) (sorted_key_args _ _) (fun _ => sort_key_args _ _) (fun _ => rfl) (fun v x e hm h tk kp => ?_) (fun out c h' tk kp hn hq hlen ho => ?_)
  · obtain ⟨a, _, rfl⟩ := List.mem_map.mp h1
    obtain ⟨b, _, rfl⟩ := List.mem_map.mp h2
    rfl
  · obtain ⟨a, _, rfl⟩ := List.mem_map.mp h1
    exact ⟨fun z => (nomatch z), fun _ z => (nomatch z)⟩
  · have := hr.units
    show X.A.units + 2 + 0 < _
    omega
  · subst e
    obtain ⟨dx, fs, e1, e2⟩ := hx x hm
    have I1 : Inv X pins σ H { s with heap := h, toks := tk } := I.kept kp
    exact attr_key I1 F S hb I1.env0.in1.in1 hr.in1.in1 e1 hC hN e2 hd hcd2 hatt
  · have eo := each_refs (fun _ _ z => z) ho
    subst eo
    have es : xs.mergeSort (PySem.W.dataLe false fun x => PyData.int (ks x)) = xs.mergeSort fun a b => decide (ks a ≤ ks b) := by
      rw [PySem.W.dataLe_int]
    rw [es] at hq
    have hf := I.hok.fresh (Nat.le_succ s.heap.objs.size)
    have I1 : Inv X pins σ H { s with heap := h', toks := tk } := I.kept kp
    refine ⟨.ref (s.heap.objs.size + 1), _, ?_, rfl, hQ _ hf⟩
    have hle : ((xs.mergeSort fun a b => decide (ks a ≤ ks b)).map V.ref).length ≤ sizeLine := by simpa using hz2
    exact I.laid (t' := tk) kp (Nat.le_succ _) ⟨hle, _, c, vals_refs _, hq⟩
end
end XB

set_option maxRecDepth 100000
set_option maxHeartbeats 4000000
/-! ## a list of whatever == [], != [] -/
namespace XB
open PySem PySem.Spec PyProof.Rows L2
section
variable {X : Cx}
def rEqE (K : PySem.W.Frag) : R2 := fun x y H Q => ∃ a b xs, x = .ref a ∧ y = .ref b ∧ SqL K H a xs ∧ SqL K H b [] ∧ Q (.bl xs.isEmpty) H
def rNeE (K : PySem.W.Frag) : R2 := fun x y H Q => ∃ a b xs, x = .ref a ∧ y = .ref b ∧ SqL K H a xs ∧ SqL K H b [] ∧ Q (.bl (!xs.isEmpty)) H
theorem op_eqE (hu : X.A.units + 64 < cLine) : OpR X (compareOp .Eq) (rEqE X.K) := by
  intro pins s σ H x y v u Q I rx ry h
  obtain ⟨a, b, xs, rfl, rfl, ha, hb, q⟩ := h
  cases rx
  cases ry
  obtain ⟨its, rv, pl, _⟩ := I.list ha
  obtain ⟨its2, rv2, pl2, _⟩ := I.list hb
  cases rv2
  have hu2 : X.A.units < cLine := by omega
  cases rv with
  | nil => exact SeqAt.RcAt.lists (e := fun _ => true) pl.isList pl2.isList rfl hu2 (fun j h1 => absurd h1 (Nat.not_lt_zero _)) _ _ _ _ ⟨.bl true, H, I, rfl, q⟩
  | cons r1 r2 => exact SeqAt.RcAt.lists_lengths pl.isList pl2.isList (by simp) hu2 _ _ _ _ ⟨.bl false, H, I, rfl, q⟩
theorem op_neE (hu : X.A.units + 64 < cLine) : OpR X (compareOp .NotEq) (rNeE X.K) := by
  intro pins s σ H x y v u Q I rx ry h
  obtain ⟨a, b, xs, rfl, rfl, ha, hb, q⟩ := h
  cases rx
  cases ry
  obtain ⟨its, rv, pl, _⟩ := I.list ha
  obtain ⟨its2, rv2, pl2, _⟩ := I.list hb
  cases rv2
  have hu2 : X.A.units < cLine := by omega
  cases rv with
  | nil => exact SeqAt.RcNeAt.lists (e := fun _ => true) pl.isList pl2.isList rfl hu2 (fun j h1 => absurd h1 (Nat.not_lt_zero _)) _ _ _ _ ⟨.bl false, H, I, rfl, q⟩
  | cons r1 r2 => exact SeqAt.RcNeAt.lists_lengths pl.isList pl2.isList (by simp) hu2 _ _ _ _ ⟨.bl true, H, I, rfl, q⟩
end
end XB

set_option maxRecDepth 100000
set_option maxHeartbeats 4000000
/-! ## methods called with keywords, bound methods as values, short words -/
namespace XB
open PySem PySem.Spec PyProof.Rows L2
open C8 (Cal Mak Met CalAt pe_c pe_mk pe_mt pe_mt0 pe_gc)
theorem _root_.L2.Room.units65 {k : Nat} {A : Around} (r : Room k A) : A.units + 65 < cLine := by have := r.un; omega
/-! ### operators by short names -/
abbrev xAdd : R2 := rI0 fun i j => .int (i + j)
abbrev xSub : R2 := rI0 fun i j => .int (i - j)
abbrev xMul : R2 := rI CMul fun i j => .int (i * j)
abbrev xDiv : R2 := rI CDiv fun i j => .int (i / j)
abbrev xMod : R2 := rI (fun _ j => 0 < j) fun i j => .int (i % j)
abbrev xPow : R2 := rI CPow fun i j => .int (i ^ j.toNat)
abbrev xNeg : V → Hp → VK → Prop := rU fun i => .int (-i)
abbrev xLt : R2 := rI0 fun i j => .bl (decide (i < j))
abbrev xLe : R2 := rI0 fun i j => .bl (decide (i ≤ j))
abbrev xGt : R2 := rI0 fun i j => .bl (decide (j < i))
abbrev xGe : R2 := rI0 fun i j => .bl (decide (j ≤ i))
abbrev xIsN : R2 := fun x y H Q => y = .non ∧ Q (.bl (decide (x = .non))) H
abbrev xNotN : R2 := fun x y H Q => y = .non ∧ Q (.bl (!decide (x = .non))) H
abbrev xIsB : R2 := fun x y H Q => ∃ a b, x = .bl a ∧ y = .bl b ∧ Q (.bl (decide (a = b))) H
abbrev xNotB : R2 := fun x y H Q => ∃ a b, x = .bl a ∧ y = .bl b ∧ Q (.bl (!decide (a = b))) H
abbrev xLen (K : PySem.W.Frag) : List V → Hp → VK → Prop := fun xs H Q => ∃ p ys, xs = [.ref p] ∧ (SqL K H p ys ∨ SqT K H p ys) ∧ Q (.int ys.length) H
abbrev xList (K : PySem.W.Frag) : List V → Hp → VK → Prop := fun xs H Q => ∃ p ys, xs = [.ref p] ∧ (SqL K H p ys ∨ SqT K H p ys) ∧ ∀ l, H l = none → Q (.ref l) (upd H l (.lst ys))
abbrev xMin2 : List V → Hp → VK → Prop := fun xs H Q => ∃ i j, xs = [.int i, .int j] ∧ Q (.int (if j < i then j else i)) H
abbrev xMax2 : List V → Hp → VK → Prop := fun xs H Q => ∃ i j, xs = [.int i, .int j] ∧ Q (.int (if j > i then j else i)) H
abbrev xAbs : List V → Hp → VK → Prop := fun xs H Q => ∃ i, xs = [.int i] ∧ Q (.int (if i < 0 then -i else i)) H

/-! ### a starred target -/
theorem pgs_star {X : Cx} {e : Expr} {p : Pos} {es : List Expr} {t : TG} {u : TGs} (h1 : PG X e t) (h2 : PGs X es u)
    (hs : (assignEach (.Starred e p :: es) X.env).map (·.2) = assign e X.env :: (assignEach es X.env).map (·.2) := by rfl) : PGs X (.Starred e p :: es) (gCons t u) := by
  refine ⟨fun pins s σ H vs us Q I r h => ?_⟩
  obtain ⟨v, vr, rfl, h⟩ := h
  cases r with
  | cons r rr =>
    rw [hs]
    exact assignInOrder_cons (thn (h1.run pins s σ H _ _ _ I r h) fun _ s1 ⟨σ1, H1, I1, q1⟩ => h2.run pins s1 σ1 H1 _ _ Q I1 rr q1)
/-! ### o.m as a value -/
def tBnd (C : Addr) (m : Str) (g : Addr) (to : TE) : TE := fun σ H Q => to σ H fun x H1 => ∃ a dx fs, x = .ref a ∧ H1 a = some (.ins C dx fs) ∧ fs.lookup m = none ∧ ∀ p, H1 p = none → Q (.ref p) (upd H1 p (.met g a))
section
variable {X : Cx} {o : Expr} {m : Str} {pos apos : Pos} {C g : Addr} {to : TE}
theorem pe_bnd (c : Cls X.K C) (k : BMeth X.K C m g) (ho : PE X o to) (hb : attributeBase o m X.env (eval o X.env) = eval o X.env := by rfl) : PE X (.Attribute o m pos) (tBnd C m g to) := by
  refine ⟨fun pins s σ H Q I h => ?_⟩
  refine attr_of hb (thn (ho.run pins s σ H _ I h) fun u s1 ⟨x, H1, I1, rx, a, dx, fs, ex, ea, l, q⟩ => ?_)
  subst ex
  exact op_getbound I1 ea c k l rx q
end

/-! ### a method called with keywords alone -/
def tMethK (C : Addr) (m : Str) (n : Nat) (sp : Sp) (gV : List V → List V → List V) (E : XK) (ta : TE) (tk : TA) : TE := fun σ H Q => ta σ H fun x H1 => ∃ a dx fs, x = .ref a ∧ H1 a = some (.ins C dx fs) ∧ fs.lookup m = none ∧
  tk σ H1 fun zs H2 => zs.length = n ∧ sp (gV [x] zs) H2 Q E
structure KMet (P : Program) (w : World) (K : PySem.W.Frag) (mg : Str → Option Value) (base : Heap) (k : Nat) (C : Addr) (m : Str) (ks : List Str) (sp : Sp) (gV : List V → List V → List V) : Prop where
  ex : ∃ (f : Addr) (fd : FuncData) (ps : List Str) (g : List Value → List Value → List Value), Cls K C ∧ Meth K C m f ∧ FnOk P w K mg base CX0 k f fd ps sp ∧ KBn K fd ps 1 ks g gV
structure KMak (P : Program) (w : World) (K : PySem.W.Frag) (mg : Str → Option Value) (base : Heap) (k : Nat) (x : Str) (C : Addr) (n : Nat) (ks : List Str) (sp : Sp) (gV : List V → List V → List V) : Prop where
  ex : ∃ (f : Addr) (fd : FuncData) (ps : List Str) (g : List Value → List Value → List Value), Mk K C f ∧ FnOk P w K mg base CX0 k f fd ps sp ∧ mg x = some (.ref C) ∧ KBn K fd ps (n + 1) ks g gV
section
variable {X : Cx} {k j n : Nat} {C : Addr} {x m : Str} {sp : Sp} {ks : List Str} {dvs : List V} {p pos apos : Pos} {e o : Expr} {es : List Expr} {kws : List Keyword} {ta : TE} {t tk : TA} {gV : List V → List V → List V}
theorem pe_mtK {pl : Sem Bool} (c : KMet X.prog X.w X.K X.mg X.base k C m ks sp gV) (hr : Room j X.A) (hk : k ≤ j) (he : PE X o ta) (hkw : PK X kws tk)
    (hall : (backToKw pos (keywordEach kws X.env)).all (·.1.isSome) = true := by rfl) (hks : (backToKw pos (keywordEach kws X.env)).filterMap (·.1) = ks := by rfl)
    (hpl : ((backTo pos (starEach [] X.env)).any (·.1) || (backToKw pos (keywordEach kws X.env)).any (·.1.isNone)) = false := by rfl)
    (ht : eval (.Call (.Attribute o m apos) [] kws pos) X.env = (do
      let ov ← eval o X.env
      standAt apos.atName
      let (f, first) ← holding [ov] (getMethod ov m pl)
      callWith pos f first (backTo pos (starEach [] X.env)) (backToKw pos (keywordEach kws X.env))) := by rfl) :
    PE X (.Call (.Attribute o m apos) [] kws pos) (tMethK C m ks.length sp gV E0 ta tk) := by
  obtain ⟨f, fd, ps, g, hc, hm, F, hb⟩ := c.ex
  refine ⟨fun pins s σ H Q I h => ?_⟩
  refine PySem.W.methodCall_KW (pl := pl) (thn (he.run pins s σ H _ I h) fun u s1 ⟨y, H1, I1, ry, a, dx, fs, ex, ea, l, q⟩ => ?_) ht
  subst ex
  cases ry
  refine getmeth_ok I1 ea hc hm l ?_
  refine PySem.W.callWith_KW0 (first := [.ref a]) (h₀ := X.base) I.ok.mod.kin hm.kp hall ?_ hpl
  refine thn (hkw.run pos pins s1 σ H1 _ I1 q) fun ws s2 ⟨zs, H2, I2, rz, l2, q2⟩ => ⟨I2.kIn, ?_⟩
  rw [hks]
  exact run_fnN (us := [.ref a]) (vs := [.ref a]) F (hr.mono hk) hb pass0 I2 (.cons rfl .nil) rz rfl l2 q2
theorem pe_mkK0 (c : KMak X.prog X.w X.K X.mg X.base k x C 0 ks sp gV) (hr : Room j X.A) (hk : k + 1 ≤ j) (hg : Gl X x) (hkw : PK X kws tk)
    (hall : (backToKw pos (keywordEach kws X.env)).all (·.1.isSome) = true := by rfl) (hks : (backToKw pos (keywordEach kws X.env)).filterMap (·.1) = ks := by rfl) (hdb : (x == ("__debug__" : Str)) = false := by decide)
    (hpl : ((backTo pos (starEach [] X.env)).any (·.1) || (backToKw pos (keywordEach kws X.env)).any (·.1.isNone)) = false := by rfl) :
    PE X (.Call (.Name x p) [] kws pos) (tMakeK C 0 ks.length sp gV E0 tNil tk) := by
  obtain ⟨f, fd, ps, g, M, F, hm, hb⟩ := c.ex
  exact pe_makeK0 M F (hr.mono hk) hg hm hb pass0 hkw hall hks hdb hpl
theorem pe_mkK (c : KMak X.prog X.w X.K X.mg X.base k x C n ks sp gV) (hr : Room j X.A) (hk : k + 1 ≤ j) (hg : Gl X x) (ha : PA X (e :: es) t) (hkw : PK X kws tk)
    (hall : (backToKw pos (keywordEach kws X.env)).all (·.1.isSome) = true := by rfl) (hks : (backToKw pos (keywordEach kws X.env)).filterMap (·.1) = ks := by rfl) (hdb : (x == ("__debug__" : Str)) = false := by decide)
    (he : starEach (e :: es) X.env = (false, eval e X.env) :: starEach es X.env := by rfl) (hpl : ((backTo pos (starEach (e :: es) X.env)).any (·.1) || (backToKw pos (keywordEach kws X.env)).any (·.1.isNone)) = false := by rfl) :
    PE X (.Call (.Name x p) (e :: es) kws pos) (tMakeK C n ks.length sp gV E0 t tk) := by
  obtain ⟨f, fd, ps, g, M, F, hm, hb⟩ := c.ex
  exact pe_makeK M F (hr.mono hk) hg hm hb pass0 ha hkw hall hks hdb he hpl
theorem pe_mk0 (c : Mak X.prog X.w X.K X.mg X.base k x C sp dvs) (hr : Room j X.A) (hk : k + 1 ≤ j) (hg : Gl X x) (hdb : (x == ("__debug__" : Str)) = false := by decide) : PE X (.Call (.Name x p) [] [] pos) (tMake C sp dvs E0 tNil) := by
  obtain ⟨f, fd, ps, ds, M, F, hm, b, d⟩ := c.ex
  exact pe_make0 M F (hr.mono hk) hg hm b d pass0 hdb
theorem pe_c0 (c : Cal X.prog X.w X.K X.mg X.base k x sp dvs) (hr : Room j X.A) (hk : k ≤ j) (hg : Gl X x) (hdb : (x == ("__debug__" : Str)) = false := by decide) : PE X (.Call (.Name x p) [] [] pos) (tCall sp dvs E0 tNil) := by
  obtain ⟨f, fd, ps, ds, F, hm, kp, b, d⟩ := c.ex
  exact pe_call0 F (hr.mono hk) hg hm kp b d pass0 hdb
/-- a def that knows that nothing is being shown -/
structure CalG (P : Program) (w : World) (K : PySem.W.Frag) (mg : Str → Option Value) (base : Heap) (k : Nat) (x : Str) (sp : Sp) : Prop where
  ex : ∃ (f : Addr) (fd : FuncData) (ps : List Str), FnG P w K mg base CX0 k f fd ps sp ∧ mg x = some (.ref f) ∧ PySem.W.keepIn K (.ref f) = true ∧ Binds K fd ps []
theorem FnG.mono {P : Program} {w : World} {K : PySem.W.Frag} {mg : Str → Option Value} {base : Heap} {CX : CXT} {j k : Nat} {f : Addr} {fd : FuncData} {ps : List Str} {sp : Sp} (F : FnG P w K mg base CX j f fd ps sp) (h : j ≤ k) : FnG P w K mg base CX k f fd ps sp :=
  ⟨F.len, fun A outer s H args us vs Q E hr => F.run A outer s H args us vs Q E (hr.mono h)⟩
theorem pe_cG (c : CalG X.prog X.w X.K X.mg X.base k x sp) (hr : Room j X.A) (hk : k ≤ j) (hgd : X.A.guards = some []) (hg : Gl X x) (ha : PA X (e :: es) t)
    (hdb : (x == ("__debug__" : Str)) = false := by decide) (he : starEach (e :: es) X.env = (false, eval e X.env) :: starEach es X.env := by rfl) (hpl : (backTo pos (starEach es X.env)).any (·.1) = false := by rfl) :
    PE X (.Call (.Name x p) (e :: es) [] pos) (tCall sp [] E0 t) := by
  obtain ⟨f, fd, ps, F, hm, kp, b⟩ := c.ex
  exact pe_callG F (hr.mono hk) hgd hg hm kp b .nil pass0 ha hdb he hpl
theorem pe_cG0 (c : CalG X.prog X.w X.K X.mg X.base k x sp) (hr : Room j X.A) (hk : k ≤ j) (hgd : X.A.guards = some []) (hg : Gl X x) (hdb : (x == ("__debug__" : Str)) = false := by decide) : PE X (.Call (.Name x p) [] [] pos) (tCall sp [] E0 tNil) := by
  obtain ⟨f, fd, ps, F, hm, kp, b⟩ := c.ex
  exact pe_callG0 F (hr.mono hk) hgd hg hm kp b .nil pass0 hdb
end
/-- what isinstance asks of an own class -/
structure InsOk (K : PySem.W.Frag) (C : Addr) : Prop where
  cl : Cls K C
  ha : PySem.W.findIn K (.ref C) "__class__" = some (some (.builtin "object.__class__"))
  hn : PySem.W.specialIn K (.builtin "object.__class__") "__get__" = some (some (.builtin "getset_descriptor.__get__"))
  htk : PySem.W.takesIn K (.builtin "object.__class__") = some true
  hm : PySem.W.mroIn K C (.type "object") = some true
end XB

/-! ## Prog, part A: heaps, lists side by side, comprehensions -/
namespace SY
open PySem PySem.Spec PyProof.Rows L2 XB
/-! ### two lists side by side -/
abbrev All2 {α β : Type} (R : α → β → Prop) : List α → List β → Prop := Paired R
section
variable {α β γ : Type} {R R' : α → β → Prop} {xs : List α} {ys : List β}
theorem All2.imp {α β : Type} {R R' : α → β → Prop} {xs : List α} {ys : List β} (h : All2 R xs ys) (f : ∀ a b, a ∈ xs → b ∈ ys → R a b → R' a b) : All2 R' xs ys := by
  induction h with
  | nil => exact .nil
  | cons r t ih => exact .cons (f _ _ List.mem_cons_self List.mem_cons_self r) (ih fun a b ha hb => f a b (List.mem_cons_of_mem _ ha) (List.mem_cons_of_mem _ hb))
theorem All2.get {α β : Type} {R : α → β → Prop} : ∀ {xs : List α} {ys : List β} {i : Nat} {a : α}, All2 R xs ys → xs[i]? = some a → ∃ b, ys[i]? = some b ∧ R a b
  | _, _, 0, _, .cons r _, h => ⟨_, rfl, by cases h; exact r⟩
  | _, _, i + 1, a, .cons _ t, h => All2.get (i := i) t (by simpa using h)
theorem All2.get2 {α β : Type} {R : α → β → Prop} : ∀ {xs : List α} {ys : List β} {i : Nat} {b : β}, All2 R xs ys → ys[i]? = some b → ∃ a, xs[i]? = some a ∧ R a b
  | _, _, 0, _, .cons r _, h => ⟨_, rfl, by cases h; exact r⟩
  | _, _, i + 1, b, .cons _ t, h => All2.get2 (i := i) t (by simpa using h)
theorem All2.append {α β : Type} {R : α → β → Prop} : ∀ {xs xs' : List α} {ys ys' : List β}, All2 R xs ys → All2 R xs' ys' → All2 R (xs ++ xs') (ys ++ ys')
  | _, _, _, _, .nil, h => h
  | _, _, _, _, .cons r t, h => .cons r (All2.append t h)
theorem All2.one {α β : Type} {R : α → β → Prop} {a : α} {b : β} (h : R a b) : All2 R [a] [b] := .cons h .nil
theorem All2.set {α β : Type} {R : α → β → Prop} {a : α} {b : β} (r : R a b) : ∀ {xs : List α} {ys : List β} (i : Nat), All2 R xs ys → All2 R (xs.set i a) (ys.set i b)
  | _, _, _, .nil => .nil
  | _, _, 0, .cons _ t => .cons r t
  | _, _, i + 1, .cons q t => .cons q (All2.set r i t)
theorem All2.mem {α β : Type} {R : α → β → Prop} {xs : List α} {ys : List β} {a : α} (h : All2 R xs ys) (ha : a ∈ xs) : ∃ b, b ∈ ys ∧ R a b := by
  obtain ⟨i, hi⟩ := List.getElem?_of_mem ha
  obtain ⟨b, hb, r⟩ := h.get hi
  exact ⟨b, List.mem_of_getElem? hb, r⟩
theorem All2.len {α β : Type} {R : α → β → Prop} {xs : List α} {ys : List β} (h : All2 R xs ys) : xs.length = ys.length := Paired.length h
theorem All2.nil_iff {α β : Type} {R : α → β → Prop} {xs : List α} {ys : List β} (h : All2 R xs ys) : xs = [] ↔ ys = [] := by
  cases h <;> simp
/-- the left ones whose right ones pass -/
def keep2 {α β : Type} (p : β → Bool) : List α → List β → List α
  | a :: xs, b :: ys => if p b = true then a :: keep2 p xs ys else keep2 p xs ys
  | _, _ => []
theorem keep2_all {α β : Type} {R : α → β → Prop} (p : β → Bool) : ∀ {xs : List α} {ys : List β}, All2 R xs ys → All2 R (keep2 p xs ys) (ys.filter p)
  | _, _, .nil => .nil
  | _, b :: _, .cons r t => by
    unfold keep2
    cases h : p b with
    | true => rw [if_pos rfl, List.filter_cons_of_pos h]; exact .cons r (keep2_all p t)
    | false => rw [if_neg Bool.false_ne_true, List.filter_cons_of_neg (by simp [h])]; exact keep2_all p t
theorem keep2_sub {α β : Type} (p : β → Bool) : ∀ (xs : List α) (ys : List β), (keep2 p xs ys).Sublist xs
  | [], _ => by simp [keep2]
  | _ :: _, [] => by simp [keep2]
  | a :: xs, b :: ys => by
    unfold keep2
    split
    · exact (keep2_sub p xs ys).cons₂ a
    · exact (keep2_sub p xs ys).cons a
end

/-! ### heaps -/
/-- all is kept but what stands at A -/
def Kp (A : Addr → Prop) (H H' : Hp) : Prop := ∀ b o, H b = some o → ¬ A b → H' b = some o
section
variable {A B : Addr → Prop} {H H1 H2 : Hp} {a b p : Addr} {o u : HO}
theorem Kp.same (h : Same H H1) : Kp A H H1 := fun b o e _ => h b o e
theorem Kp.trans (h : Kp A H H1) (k : Kp A H1 H2) : Kp A H H2 := fun b o e n => k b o (h b o e n) n
theorem Kp.mono (h : Kp A H H1) (k : ∀ b, H b ≠ none → A b → B b) : Kp B H H1 := fun b o e n => h b o e fun z => n (k b (by rw [e]; simp) z)
theorem Kp.toSame (h : Kp A H H1) (k : ∀ b o, H b = some o → ¬ A b) : Same H H1 := fun b o e => h b o e (k b o e)
theorem same_upd (h : H p = none) : Same H (upd H p o) := fun b u e => by
  rw [upd_ne (ne_of_none e h)]
  exact e
theorem upd_new (s : Same H H1) (h : H p = none) : Same H (upd H1 p o) := fun b u e => by
  rw [upd_ne (ne_of_none e h)]
  exact s b u e
theorem kp_upd (h : H a = some u) : Kp (fun b => b = a) H (upd H a o) := fun b v e n => by
  rw [upd_ne n]
  exact e
theorem Kp.upd (k : Kp A H H1) (h : A a ∨ H a = none) : Kp A H (upd H1 a o) := fun b v e n => by
  have hn : b ≠ a := fun z => by
    rcases h with h | h
    · exact n (z ▸ h)
    · rw [z, h] at e
      cases e
  rw [upd_ne hn]
  exact k b v e n
theorem Kp.at (k : Kp A H H1) (e : H b = some o) (n : ¬ A b) : H1 b = some o := k b o e n
theorem Kp.none (k : Kp A H H1) (h : H1 b = none) (n : ¬ A b) : H b = Option.none := by
  cases e : H b with
  | none => rfl
  | some o =>
    rw [k b o e n] at h
    cases h
theorem same_none (k : Same H H1) (h : H1 b = none) : H b = none := k.free h
theorem ne_lst_tup {xs ys : List V} (h : H a = some (.lst xs)) (h' : H b = some (.tup ys)) : b ≠ a := ne_of h' h (by intro z; cases z)
theorem ne_lst_ins {xs : List V} {C dx : Addr} {fs : List (Str × V)} (h : H a = some (.lst xs)) (h' : H b = some (.ins C dx fs)) : b ≠ a := ne_of h' h (by intro z; cases z)
theorem ne_ins_lst {xs : List V} {C dx : Addr} {fs : List (Str × V)} (h : H a = some (.ins C dx fs)) (h' : H b = some (.lst xs)) : b ≠ a := ne_of h' h (by intro z; cases z)
theorem ne_ins_tup {xs : List V} {C dx : Addr} {fs : List (Str × V)} (h : H a = some (.ins C dx fs)) (h' : H b = some (.tup xs)) : b ≠ a := ne_of h' h (by intro z; cases z)
theorem ne_ins_ins {C D dx dy : Addr} {fs gs : List (Str × V)} (n : C ≠ D) (h : H a = some (.ins C dx fs)) (h' : H b = some (.ins D dy gs)) : b ≠ a := ne_of h' h (by intro z; cases z; exact n rfl)
end
theorem sz_ok {n : Nat} (h : n ≤ 16000000) : n ≤ sizeLine := Nat.le_trans h (by decide)
theorem sz_lt {n : Nat} (h : n ≤ 16000000) : n < sizeLine := Nat.lt_of_le_of_lt h (by decide)
theorem ixN_of {n j : Nat} (h : j < n) : ixN n (j : Int) = some j := by
  unfold ixN
  rw [if_pos (by omega), if_pos (by omega)]
  simp
theorem atI_of {α : Type} {xs : List α} {j : Nat} {v : α} (h : xs[j]? = some v) : atI xs (j : Int) = some v := by
  unfold atI
  rw [ixN_of (List.getElem?_eq_some_iff.mp h).1]
  exact h
theorem atI_last {α : Type} {xs : List α} {v : α} (h : xs.getLast? = some v) : atI xs (-1) = some v := by
  have hne : xs ≠ [] := by
    rintro rfl
    cases h
  have hl : 0 < xs.length := List.length_pos_iff.mpr hne
  unfold atI ixN
  rw [if_neg (by omega), if_pos (by omega)]
  show xs[(-1 + (xs.length : Int)).toNat]? = some v
  rw [show (-1 + (xs.length : Int)).toNat = xs.length - 1 by omega, ← List.getLast?_eq_getElem?]
  exact h

/-! ### comprehensions -/
section
variable {K : PySem.W.Frag} {σ : L2.St} {H : Hp} {Qd : Addr → Hp → Prop} {a : Addr} {xs : List V} {i : Nat} {tt : TT} {te : TE}
/-- [e for x in l if t]: what e tells is P, wherever the heap has grown; what was tracked stays -/
theorem comp_all (b : V → Bool) (P : Addr → V → V → Hp → Prop) (hP : ∀ D x v H1 H2, (∀ b o, H1 b = some o → b ≠ D → H2 b = some o) → P D x v H1 → P D x v H2) (hl : SqL K H a xs) (hz : xs.length ≤ 16000000) (hi : i < σ.length)
    (ht : ∀ x ∈ xs, ∀ H1, Same H H1 → ∀ R : Bool → Hp → Prop, (∀ H2, Same H1 H2 → R (b x) H2) → tt ((wipe σ [i]).set i (some x)) H1 R)
    (he : ∀ D acc, H D = none → ∀ x ∈ xs, b x = true → ∀ H1, Same H H1 → H1 D = some (.lst acc) → ∀ R : VK, (∀ v H2, Same H1 H2 → P D x v H2 → R v H2) → te ((wipe σ [i]).set i (some x)) H1 R)
    (k : ∀ p vs H1, H p = none → Same H H1 → H1 p = some (.lst vs) → All2 (fun x v => P p x v H1) (xs.filter b) vs → Qd p H1) :
    ∀ D, H D = none → ∃ W : Nat → Nat → Hp → Prop, (∃ m, W 0 m (upd H D (.lst []))) ∧ ∀ n m H, W n m H →
      ((Itl K a).stop n H ∧ Qd D H) ∨ ((Itl K a).go n H ∧ ∃ Nx : Hp → Prop, (∀ H', Nx H' → ∃ m', m' < m ∧ W (n + 1) m' H') ∧ ∀ x H', (Itl K a).yld n H x H' → gName i x (wipe σ [i]) H' fun σ2 H2 => wipe σ2 [i] = wipe σ [i] ∧ tt σ2 H2 fun b H3 =>
        if b = true then te σ2 H3 fun y H4 => ∃ acc, H4 D = some (.lst acc) ∧ acc.length < sizeLine ∧ Nx (upd H4 D (.lst (acc ++ [y]))) else Nx H3) := by
  intro D hD
  have w1 : ∀ x, wipe ((wipe σ [i]).set i (some x)) [i] = wipe σ [i] := fun x => by
    simp [wipe]
  refine lc_list (K := K) (a := a) (xs := xs) (fun n H1 => Same H H1 ∧ ∃ vs, H1 D = some (.lst vs) ∧ All2 (fun x v => P D x v H1) ((xs.take n).filter b) vs) ⟨same_upd hD, [], upd_same, by simpa using Paired.nil⟩ (fun n H1 _ h => h.1.seq hl) ?_ ?_
  · rintro n x H1 hx ⟨s1, vs, hv, hA⟩
    have hm := List.mem_of_getElem? hx
    have etk : xs.take (n + 1) = xs.take n ++ [x] := by
      rw [List.take_add_one, hx]
      rfl
    refine ⟨w1 x, ht x hm H1 s1 _ fun H2 s2 => ?_⟩
    have hv2 := s2 _ _ hv
    cases hb : b x with
    | false =>
      rw [if_neg Bool.false_ne_true]
      refine ⟨s1.trans s2, vs, hv2, ?_⟩
      rw [etk, List.filter_append]
      simp only [List.filter_cons, hb, Bool.false_eq_true, if_false, List.filter_nil, List.append_nil]
      exact hA.imp fun x v _ _ h => hP D x v _ _ (fun b o e _ => s2 b o e) h
    | true =>
      rw [if_pos rfl]
      refine he D vs hD x hm hb H2 (s1.trans s2) hv2 _ fun v H3 s3 hv3 => ?_
      have hvs := s3 _ _ hv2
      have len : vs.length ≤ xs.length := by
        rw [← hA.len]
        exact Nat.le_trans (List.length_filter_le _ _) (by simp; omega)
      refine ⟨vs, hvs, sz_lt (Nat.le_trans len hz), ?_⟩
      have s4 : Same H (upd H3 D (.lst (vs ++ [v]))) := upd_new ((s1.trans s2).trans s3) hD
      refine ⟨s4, vs ++ [v], upd_same, ?_⟩
      rw [etk, List.filter_append]
      simp only [List.filter_cons, hb, if_true, List.filter_nil]
      have kd : ∀ c o, H3 c = some o → c ≠ D → (upd H3 D (.lst (vs ++ [v]))) c = some o := fun c o e n => by
        rw [upd_ne n]
        exact e
      exact (hA.imp fun x v _ _ h => hP D x v _ _ kd (hP D x v _ _ (fun b o e _ => (s2.trans s3) b o e) h)).append (.one (hP D x v _ _ kd hv3))
  · rintro H1 ⟨s1, vs, hv, hA⟩
    rw [List.take_length] at hA
    exact k D vs H1 hD s1 hv hA
/-- .. where nothing is made on the way -/
theorem comp_pure (b : V → Bool) (g : V → V) (hl : SqL K H a xs) (hz : xs.length ≤ 16000000) (hi : i < σ.length)
    (ht : ∀ x ∈ xs, ∀ H1, Same H H1 → ∀ R : Bool → Hp → Prop, (∀ H2, Same H1 H2 → R (b x) H2) → tt ((wipe σ [i]).set i (some x)) H1 R)
    (he : ∀ x ∈ xs, b x = true → ∀ H1, Same H H1 → ∀ R : VK, (∀ H2, Same H1 H2 → R (g x) H2) → te ((wipe σ [i]).set i (some x)) H1 R)
    (k : ∀ p H1, H p = none → Same H H1 → H1 p = some (.lst ((xs.filter b).map g)) → Qd p H1) :
    ∀ D, H D = none → ∃ W : Nat → Nat → Hp → Prop, (∃ m, W 0 m (upd H D (.lst []))) ∧ ∀ n m H, W n m H →
      ((Itl K a).stop n H ∧ Qd D H) ∨ ((Itl K a).go n H ∧ ∃ Nx : Hp → Prop, (∀ H', Nx H' → ∃ m', m' < m ∧ W (n + 1) m' H') ∧ ∀ x H', (Itl K a).yld n H x H' → gName i x (wipe σ [i]) H' fun σ2 H2 => wipe σ2 [i] = wipe σ [i] ∧ tt σ2 H2 fun b H3 =>
        if b = true then te σ2 H3 fun y H4 => ∃ acc, H4 D = some (.lst acc) ∧ acc.length < sizeLine ∧ Nx (upd H4 D (.lst (acc ++ [y]))) else Nx H3) := by
  refine comp_all b (fun _ x v _ => v = g x) (fun _ _ _ _ _ _ h => h) hl hz hi ht (fun D acc _ x hx hb H1 s1 _ R r => he x hx hb H1 s1 R fun H2 s2 => r _ H2 s2 rfl) fun p vs H1 hp s1 hv hA => ?_
  have e : ∀ {xs vs : List V}, All2 (fun x v => v = g x) xs vs → vs = xs.map g := fun {xs vs} h => by
    induction h with
    | nil => rfl
    | cons r t ih => rw [r, ih] <;> rfl
  rw [e hA] at hv
  exact k p H1 hp s1 hv
end
/-! ### comprehensions over lists of objects, told side by side -/
theorem keep2_append {α β : Type} (p : β → Bool) : ∀ {as bs : List α} {xs ys : List β}, as.length = xs.length → keep2 p (as ++ bs) (xs ++ ys) = keep2 p as xs ++ keep2 p bs ys
  | [], _, [], _, _ => by simp [keep2]
  | a :: as, bs, x :: xs, ys, h => by
    simp only [List.cons_append, keep2]
    rw [keep2_append p (Nat.succ.inj h)]
    split <;> rfl
  | [], _, _ :: _, _, h => by cases h
  | _ :: _, _, [], _, h => by cases h
theorem keep2_len {α β : Type} (p : β → Bool) (as : List α) (xs : List β) : (keep2 p as xs).length ≤ as.length := (keep2_sub p as xs).length_le
theorem keep2_all2 {α β : Type} {R : α → β → Prop} {p : β → Bool} : ∀ {as : List α} {xs : List β}, All2 R as xs → ∀ {a : α}, a ∈ keep2 p as xs → ∃ x, x ∈ xs ∧ p x = true ∧ R a x
  | _, _, .nil, a, h => by simp [keep2] at h
  | _, _, .cons (a := b) (b := y) r t, a, h => by
    unfold keep2 at h
    cases hp : p y with
    | true =>
      rw [if_pos hp, List.mem_cons] at h
      rcases h with rfl | h
      · exact ⟨y, List.mem_cons_self, hp, r⟩
      · obtain ⟨x, hx, q⟩ := keep2_all2 t h
        exact ⟨x, List.mem_cons_of_mem _ hx, q⟩
    | false =>
      rw [if_neg (by simp [hp])] at h
      obtain ⟨x, hx, q⟩ := keep2_all2 t h
      exact ⟨x, List.mem_cons_of_mem _ hx, q⟩
section
variable {K : PySem.W.Frag} {σ : L2.St} {H : Hp} {Qd : Addr → Hp → Prop} {l : Addr} {as : List Addr} {i : Nat} {tt : TT} {te : TE} {β : Type} {ys : List β} {R : Addr → β → Prop}
theorem take_one {α : Type} {xs : List α} {n : Nat} {x : α} (h : xs[n]? = some x) : xs.take (n + 1) = xs.take n ++ [x] := by
  rw [List.take_add_one, h]
  rfl
/-- [x for x in l if t] -/
theorem comp_keep (pr : β → Bool) (hA : All2 R as ys) (hl : SqL K H l (as.map V.ref)) (hz : as.length ≤ 16000000) (hi : i < σ.length)
    (ht : ∀ a y, a ∈ as → R a y → ∀ H1, Same H H1 → ∀ Rb : Bool → Hp → Prop, (∀ H2, Same H1 H2 → Rb (pr y) H2) → tt ((wipe σ [i]).set i (some (.ref a))) H1 Rb)
    (k : ∀ p H1, H p = none → Same H H1 → H1 p = some (.lst ((keep2 pr as ys).map V.ref)) → Qd p H1) :
    ∀ D, H D = none → ∃ W : Nat → Nat → Hp → Prop, (∃ m, W 0 m (upd H D (.lst []))) ∧ ∀ n m H, W n m H →
      ((Itl K l).stop n H ∧ Qd D H) ∨ ((Itl K l).go n H ∧ ∃ Nx : Hp → Prop, (∀ H', Nx H' → ∃ m', m' < m ∧ W (n + 1) m' H') ∧ ∀ x H', (Itl K l).yld n H x H' → gName i x (wipe σ [i]) H' fun σ2 H2 => wipe σ2 [i] = wipe σ [i] ∧ tt σ2 H2 fun b H3 =>
        if b = true then tVar i σ2 H3 fun y H4 => ∃ acc, H4 D = some (.lst acc) ∧ acc.length < sizeLine ∧ Nx (upd H4 D (.lst (acc ++ [y]))) else Nx H3) := by
  intro D hD
  have w1 : ∀ x, wipe ((wipe σ [i]).set i (some x)) [i] = wipe σ [i] := fun x => by
    simp [wipe]
  have len := hA.len
  refine lc_list (K := K) (a := l) (xs := as.map V.ref) (fun n H1 => Same H H1 ∧ H1 D = some (.lst ((keep2 pr (as.take n) (ys.take n)).map V.ref))) ⟨same_upd hD, by rw [upd_same]; simp [keep2]⟩ (fun n H1 _ h => h.1.seq hl) ?_ ?_
  · rintro n x H1 hx ⟨s1, hv⟩
    rw [List.getElem?_map] at hx
    obtain ⟨a, ha, rfl⟩ := Option.map_eq_some_iff.mp hx
    obtain ⟨y, hy, r⟩ := hA.get ha
    refine ⟨w1 _, ht a y (List.mem_of_getElem? ha) r H1 s1 _ fun H2 s2 => ?_⟩
    have hv2 := s2 _ _ hv
    have e : keep2 pr (as.take (n + 1)) (ys.take (n + 1)) = keep2 pr (as.take n) (ys.take n) ++ keep2 pr [a] [y] := by
      rw [take_one ha, take_one hy, keep2_append pr (by rw [List.length_take, List.length_take, len])]
    cases hb : pr y with
    | false =>
      rw [if_neg Bool.false_ne_true]
      refine ⟨s1.trans s2, ?_⟩
      rw [e, hv2]
      simp [keep2, hb]
    | true =>
      rw [if_pos rfl]
      refine ⟨_, by rw [List.getElem?_set_self (by simp [wipe]; exact hi)], _, hv2, sz_lt ?_, upd_new (s1.trans s2) hD, ?_⟩
      · rw [List.length_map]
        refine Nat.le_trans (keep2_len _ _ _) (Nat.le_trans ?_ hz)
        rw [List.length_take]
        omega
      · rw [upd_same, e]
        simp [keep2, hb]
  · rintro H1 ⟨s1, hv⟩
    rw [List.length_map, List.take_length, len, List.take_length] at hv
    exact k D H1 hD s1 hv
/-- [e for x in l] -/
theorem comp_make (P : Addr → β → V → Hp → Prop) (hP : ∀ D y v H1 H2, (∀ b o, H1 b = some o → b ≠ D → H2 b = some o) → P D y v H1 → P D y v H2) (hA : All2 R as ys) (hl : SqL K H l (as.map V.ref)) (hz : as.length ≤ 16000000) (hi : i < σ.length)
    (he : ∀ D acc, H D = none → ∀ a y, a ∈ as → R a y → ∀ H1, Same H H1 → H1 D = some (.lst acc) → ∀ Rk : VK, (∀ v H2, Same H1 H2 → P D y v H2 → Rk v H2) → te ((wipe σ [i]).set i (some (.ref a))) H1 Rk)
    (k : ∀ p vs H1, H p = none → Same H H1 → H1 p = some (.lst vs) → All2 (fun y v => P p y v H1) ys vs → Qd p H1) :
    ∀ D, H D = none → ∃ W : Nat → Nat → Hp → Prop, (∃ m, W 0 m (upd H D (.lst []))) ∧ ∀ n m H, W n m H →
      ((Itl K l).stop n H ∧ Qd D H) ∨ ((Itl K l).go n H ∧ ∃ Nx : Hp → Prop, (∀ H', Nx H' → ∃ m', m' < m ∧ W (n + 1) m' H') ∧ ∀ x H', (Itl K l).yld n H x H' → gName i x (wipe σ [i]) H' fun σ2 H2 => wipe σ2 [i] = wipe σ [i] ∧ tYes σ2 H2 fun b H3 =>
        if b = true then te σ2 H3 fun y H4 => ∃ acc, H4 D = some (.lst acc) ∧ acc.length < sizeLine ∧ Nx (upd H4 D (.lst (acc ++ [y]))) else Nx H3) := by
  intro D hD
  have w1 : ∀ x, wipe ((wipe σ [i]).set i (some x)) [i] = wipe σ [i] := fun x => by
    simp [wipe]
  have len := hA.len
  refine lc_list (K := K) (a := l) (xs := as.map V.ref) (fun n H1 => Same H H1 ∧ ∃ vs, H1 D = some (.lst vs) ∧ All2 (fun y v => P D y v H1) (ys.take n) vs) ⟨same_upd hD, [], upd_same, by rw [List.take_zero]; exact .nil⟩ (fun n H1 _ h => h.1.seq hl) ?_ ?_
  · rintro n x H1 hx ⟨s1, vs, hv, hB⟩
    rw [List.getElem?_map] at hx
    obtain ⟨a, ha, rfl⟩ := Option.map_eq_some_iff.mp hx
    obtain ⟨y, hy, r⟩ := hA.get ha
    refine ⟨w1 _, ?_⟩
    unfold tYes
    dsimp only
    rw [if_pos rfl]
    refine he D vs hD a y (List.mem_of_getElem? ha) r H1 s1 hv _ fun v H2 s2 hp => ?_
    have hv2 := s2 _ _ hv
    refine ⟨vs, hv2, sz_lt ?_, upd_new (s1.trans s2) hD, vs ++ [v], upd_same, ?_⟩
    · rw [← hB.len, List.length_take]
      omega
    · rw [take_one hy]
      have kd : ∀ b o, H2 b = some o → b ≠ D → (upd H2 D (.lst (vs ++ [v]))) b = some o := fun b o e n => by
        rw [upd_ne n]
        exact e
      exact (hB.imp fun y v _ _ h => hP D y v _ _ kd (hP D y v _ _ (fun b o e _ => s2 b o e) h)).append (.one (hP D y v _ _ kd hp))
  · rintro H1 ⟨s1, vs, hv, hB⟩
    rw [List.length_map, len, List.take_length] at hB
    exact k D vs H1 hD s1 hv hB
end
end SY

/-! ## Prog, part B: states, what stands in the heap, disks -/
namespace SY
open PySem PySem.Spec PyProof.Rows L2 XB
/-! ### the classes' facts -/
structure PF (K : PySem.W.Frag) : Prop where
  cl_Disk : Cls K (He.ga K "Disk")
  cl_Request : Cls K (He.ga K "Request")
  cl_Queue : Cls K (He.ga K "Queue")
  cl_Frame : Cls K (He.ga K "Frame")
  cl_Store : Cls K (He.ga K "Store")
  na_Disk_sure : NoAttr K (He.ga K "Disk") "sure"
  na_Disk_open_lots : NoAttr K (He.ga K "Disk") "open_lots"
  na_Disk_left : NoAttr K (He.ga K "Disk") "left"
  na_Request_count : NoAttr K (He.ga K "Request") "count"
  na_Request_spot : NoAttr K (He.ga K "Request") "spot"
  na_Request_number : NoAttr K (He.ga K "Request") "number"
  na_Request_seen : NoAttr K (He.ga K "Request") "seen"
  na_Queue_patience : NoAttr K (He.ga K "Queue") "patience"
  na_Queue_row : NoAttr K (He.ga K "Queue") "row"
  na_Queue_put_so_far : NoAttr K (He.ga K "Queue") "put_so_far"
  na_Queue_spot : NoAttr K (He.ga K "Queue") "spot"
  na_Frame_spot : NoAttr K (He.ga K "Frame") "spot"
  na_Frame_number : NoAttr K (He.ga K "Frame") "number"
  na_Frame_dirty : NoAttr K (He.ga K "Frame") "dirty"
  na_Store_disk : NoAttr K (He.ga K "Store") "disk"
  na_Store_most_frames : NoAttr K (He.ga K "Store") "most_frames"
  na_Store_most_dirty : NoAttr K (He.ga K "Store") "most_dirty"
  na_Store_frames : NoAttr K (He.ga K "Store") "frames"
  na_Store_waiting : NoAttr K (He.ga K "Store") "waiting"
  io_Disk : InsOk K (He.ga K "Disk")
  ki_Disk : PySem.W.kitOne K (.ref (He.ga K "Disk")) (.ref (He.ga K "Disk")) = some true
  ne_Disk_Request : He.ga K "Disk" ≠ He.ga K "Request"
  ne_Disk_Queue : He.ga K "Disk" ≠ He.ga K "Queue"
  ne_Disk_Frame : He.ga K "Disk" ≠ He.ga K "Frame"
  ne_Disk_Store : He.ga K "Disk" ≠ He.ga K "Store"
  ne_Request_Queue : He.ga K "Request" ≠ He.ga K "Queue"
  ne_Request_Frame : He.ga K "Request" ≠ He.ga K "Frame"
  ne_Request_Store : He.ga K "Request" ≠ He.ga K "Store"
  ne_Queue_Frame : He.ga K "Queue" ≠ He.ga K "Frame"
  ne_Queue_Store : He.ga K "Queue" ≠ He.ga K "Store"
  ne_Frame_Store : He.ga K "Frame" ≠ He.ga K "Store"

/-! ### attributes -/
def diskF (a b c : V) : List (Str × V) := [("sure", a), ("open_lots", b), ("left", c)]
def reqF (a b c d : V) : List (Str × V) := [("count", a), ("spot", b), ("number", c), ("seen", d)]
def queF (a b c d : V) : List (Str × V) := [("patience", a), ("row", b), ("put_so_far", c), ("spot", d)]
def fraF (a b c : V) : List (Str × V) := [("spot", a), ("number", b), ("dirty", c)]
def stoF (a b c d e : V) : List (Str × V) := [("disk", a), ("most_frames", b), ("most_dirty", c), ("frames", d), ("waiting", e)]

/-! ### states -/
structure Dsk where
  sure : List Int
  lots : List (List (Int × Int))
  left : Option Int
structure Rq where
  cnt : Int
  w : Option (Int × Int)
  seen : Int
structure Que where
  pat : Int
  row : List Rq
  put : Int
  arm : Int
structure Fra where
  room : Int
  num : Int
  dirty : Bool
structure Sto where
  mf : Int
  md : Int
  frs : List Fra
  q : Que
  d : Dsk
def leftV : Option Int → V
  | none => .non
  | some n => .int n
def roomV : Option (Int × Int) → V
  | none => .non
  | some p => .int p.1
def numV : Option (Int × Int) → V
  | none => .non
  | some p => .int p.2

/-! ### where they stand -/
structure DL where
  d : Addr
  ls : Addr
  lo : Addr
  lots : List Addr
structure QL where
  q : Addr
  lr : Addr
  rs : List Addr
structure SL where
  st : Addr
  lf : Addr
  fs : List Addr
  q : QL
  d : DL
def TupAt (H : Hp) (t : Addr) (p : Int × Int) : Prop := H t = some (.tup [.int p.1, .int p.2])
def LotAt (H : Hp) (a : Addr) (lot : List (Int × Int)) : Prop := ∃ ts, H a = some (.lst (ts.map V.ref)) ∧ All2 (TupAt H) ts lot
/-! ### ownership: A is what may be changed, A' what is owned behind it -/
structure Step (A A' : List Addr) (H H' : Hp) : Prop where
  kp : ∀ b o, H b = some o → b ∉ A → H' b = some o
  nw : ∀ b, b ∈ A' → b ∈ A ∨ H b = none
  tp : ∀ b xs, H b = some (.tup xs) → H' b = some (.tup xs)
section
variable {A A' A2 B B' : List Addr} {H H1 H2 H' : Hp} {a p : Addr} {o u : HO}
theorem Step.same (A : List Addr) (h : Same H H') : Step A A H H' := ⟨fun b o e _ => h b o e, fun _ z => .inl z, fun b _ e => h b _ e⟩
theorem Step.refl (A : List Addr) (H : Hp) : Step A A H H := Step.same A (Same.refl H)
theorem Step.trans (h : Step A A' H H1) (k : Step A' A2 H1 H2) : Step A A2 H H2 := by
  have q : ∀ b, b ∈ A' → ∀ o, H b = some o → b ∈ A := fun b hb o e => (h.nw b hb).resolve_right (by rw [e]; simp)
  refine ⟨fun b o e n => k.kp b o (h.kp b o e n) fun z => n (q b z o e), fun b hb => ?_, fun b xs e => k.tp b xs (h.tp b xs e)⟩
  rcases k.nw b hb with z | z
  · exact h.nw b z
  · by_cases m : b ∈ A
    · exact .inl m
    · right
      cases e : H b with
      | none => rfl
      | some o =>
        rw [h.kp b o e m] at z
        cases z
theorem Step.frame (h : Step A A' H H') (hA : ∀ b, b ∈ A → b ∈ B) (hB : ∀ b, b ∈ B' → b ∈ A' ∨ b ∈ B) : Step B B' H H' :=
  ⟨fun b o e n => h.kp b o e fun z => n (hA b z), fun b hb => (hB b hb).elim (fun z => (h.nw b z).imp_left (hA b)) .inl, h.tp⟩
theorem Step.upd (h : Step A A' H H1) (ha : H a = none ∨ (a ∈ A ∧ ∀ xs, H1 a ≠ some (.tup xs))) : Step A A' H (upd H1 a o) := by
  refine ⟨fun b v e n => ?_, h.nw, fun b xs e => ?_⟩
  · have hn : b ≠ a := fun z => by
      rcases ha with ha | ha
      · rw [z, ha] at e
        cases e
      · exact n (z ▸ ha.1)
    rw [upd_ne hn]
    exact h.kp b v e n
  · have hn : b ≠ a := fun z => by
      rcases ha with ha | ha
      · rw [z, ha] at e
        cases e
      · exact ha.2 xs (z ▸ h.tp b xs e)
    rw [upd_ne hn]
    exact h.tp b xs e
theorem Step.seq (h : Step A A' H H1) (k : Same H1 H2) : Step A A' H H2 := ⟨fun b o e n => k b o (h.kp b o e n), h.nw, fun b xs e => k b _ (h.tp b xs e)⟩
theorem Step.sub (h : Step A A' H H1) (k : ∀ b, b ∈ A2 → b ∈ A' ∨ H b = none) : Step A A2 H H1 := ⟨h.kp, fun b z => (k b z).elim (h.nw b) .inr, h.tp⟩
theorem Step.at (h : Step A A' H H') (e : H a = some o) (n : a ∉ A) : H' a = some o := h.kp a o e n
theorem Step.made {x dx C : Addr} (nx : H x = none) (nd : H dx = none) : Step [] [x] H (L2.upd (L2.upd H dx (.own x)) x (.ins C dx [])) :=
  ⟨fun b o e _ => by rw [upd_ne (ne_of_none e nx), upd_ne (ne_of_none e nd)]; exact e, fun b z => by simp at z; exact .inr (z ▸ nx), fun b o e => by rw [upd_ne (ne_of_none e nx), upd_ne (ne_of_none e nd)]; exact e⟩
theorem Step.has (h : Step A A' H H') (e : H a ≠ none) (n : a ∉ A) : H' a ≠ none := by
  cases q : H a with
  | none => exact absurd q e
  | some o =>
    rw [h.kp a o q n]
    simp
/-- what is owned stays in one part -/
theorem nd_step (s : Step A A' H H') (h : (A ++ B).Nodup) (n : A'.Nodup) (hB : ∀ b, b ∈ B → H b ≠ none) : (A' ++ B).Nodup := by
  rw [List.nodup_append] at h ⊢
  refine ⟨n, h.2.1, fun a ha b hb e => ?_⟩
  rcases s.nw a ha with z | z
  · exact h.2.2 a z b hb e
  · exact hB b hb (e ▸ z)
theorem tupAt_step {t : Addr} {q : Int × Int} (s : Step A A' H H') (h : TupAt H t q) : TupAt H' t q := s.tp _ _ h
theorem nt_lst {xs ys : List V} (h : H a = some (.lst xs)) : H a ≠ some (.tup ys) := by
  rw [h]
  intro z
  cases z
theorem nt_ins {C dx : Addr} {fs : List (Str × V)} {ys : List V} (h : H a = some (.ins C dx fs)) : H a ≠ some (.tup ys) := by
  rw [h]
  intro z
  cases z
end
structure DiskAt (K : PySem.W.Frag) (H : Hp) (L : DL) (s : Dsk) : Prop where
  ob : ∃ dx, H L.d = some (.ins (He.ga K "Disk") dx (diskF (.ref L.ls) (.ref L.lo) (leftV s.left)))
  ls : H L.ls = some (.lst (s.sure.map V.int))
  lo : H L.lo = some (.lst (L.lots.map V.ref))
  lots : All2 (LotAt H) L.lots s.lots
  nd : (L.d :: L.ls :: L.lo :: L.lots).Nodup
def DL.foot (L : DL) : List Addr := L.d :: L.ls :: L.lo :: L.lots
def ReqAt (K : PySem.W.Frag) (H : Hp) (a : Addr) (r : Rq) : Prop := ∃ dx, H a = some (.ins (He.ga K "Request") dx (reqF (.int r.cnt) (roomV r.w) (numV r.w) (.int r.seen)))
structure QueAt (K : PySem.W.Frag) (H : Hp) (L : QL) (s : Que) : Prop where
  ob : ∃ dx, H L.q = some (.ins (He.ga K "Queue") dx (queF (.int s.pat) (.ref L.lr) (.int s.put) (.int s.arm)))
  lr : H L.lr = some (.lst (L.rs.map V.ref))
  rs : All2 (ReqAt K H) L.rs s.row
  nd : (L.q :: L.lr :: L.rs).Nodup
def QL.foot (L : QL) : List Addr := L.q :: L.lr :: L.rs
def FraAt (K : PySem.W.Frag) (H : Hp) (a : Addr) (f : Fra) : Prop := ∃ dx, H a = some (.ins (He.ga K "Frame") dx (fraF (.int f.room) (.int f.num) (.bl f.dirty)))
structure StoAt (K : PySem.W.Frag) (H : Hp) (L : SL) (s : Sto) : Prop where
  ob : ∃ dx, H L.st = some (.ins (He.ga K "Store") dx (stoF (.ref L.d.d) (.int s.mf) (.int s.md) (.ref L.lf) (.ref L.q.q)))
  lf : H L.lf = some (.lst (L.fs.map V.ref))
  fs : All2 (FraAt K H) L.fs s.frs
  q : QueAt K H L.q s.q
  d : DiskAt K H L.d s.d
  nd : (L.d.foot ++ (L.q.foot ++ (L.st :: L.lf :: L.fs))).Nodup
def SL.foot (L : SL) : List Addr := L.d.foot ++ (L.q.foot ++ (L.st :: L.lf :: L.fs))

section
variable {K : PySem.W.Frag} {H H' : Hp} {A A' : List Addr}
theorem DiskAt.step {L : DL} {s : Dsk} (h : DiskAt K H L s) (k : Step A A' H H') (no : ∀ b, b ∈ L.foot → b ∉ A) : DiskAt K H' L s := by
  have f : ∀ b, b ∈ L.foot → b ∉ A := no
  unfold DL.foot at f
  refine ⟨h.ob.imp fun dx e => k.at e (f _ (by simp)), k.at h.ls (f _ (by simp)), k.at h.lo (f _ (by simp)), h.lots.imp fun a lot ha _ => ?_, h.nd⟩
  rintro ⟨ts, e, t⟩
  exact ⟨ts, k.at e (f _ (by simp [ha])), t.imp fun t p _ _ e => tupAt_step k e⟩
theorem DiskAt.same {L : DL} {s : Dsk} (h : DiskAt K H L s) (k : Same H H') : DiskAt K H' L s := h.step (Step.same [] k) (fun _ _ z => by simp at z)
theorem QueAt.step {L : QL} {s : Que} (h : QueAt K H L s) (k : Step A A' H H') (no : ∀ b, b ∈ L.foot → b ∉ A) : QueAt K H' L s := by
  have f : ∀ b, b ∈ L.foot → b ∉ A := no
  unfold QL.foot at f
  refine ⟨h.ob.imp fun dx e => k.at e (f _ (by simp)), k.at h.lr (f _ (by simp)), h.rs.imp fun a r ha _ e => e.imp fun dx e => k.at e (f _ (by simp [ha])), h.nd⟩
theorem QueAt.same {L : QL} {s : Que} (h : QueAt K H L s) (k : Same H H') : QueAt K H' L s := h.step (Step.same [] k) (fun _ _ z => by simp at z)
theorem StoAt.step {L : SL} {s : Sto} (h : StoAt K H L s) (k : Step A A' H H') (no : ∀ b, b ∈ L.foot → b ∉ A) : StoAt K H' L s := by
  have f : ∀ b, b ∈ L.foot → b ∉ A := no
  unfold SL.foot at f
  refine ⟨h.ob.imp fun dx e => k.at e (f _ (by simp)), k.at h.lf (f _ (by simp)), h.fs.imp fun a r ha _ e => e.imp fun dx e => k.at e (f _ (by simp [ha])), h.q.step k fun b hb => f b (by simp [hb]), h.d.step k (fun b hb => f b (by simp [hb])), h.nd⟩
theorem StoAt.same {L : SL} {s : Sto} (h : StoAt K H L s) (k : Same H H') : StoAt K H' L s := h.step (Step.same [] k) (fun _ _ z => by simp at z)
theorem DiskAt.has {L : DL} {s : Dsk} (h : DiskAt K H L s) {b : Addr} (hb : b ∈ L.foot) : H b ≠ none := by
  unfold DL.foot at hb
  simp only [List.mem_cons] at hb
  rcases hb with rfl | rfl | rfl | hb
  · obtain ⟨dx, e⟩ := h.ob
    simp [e]
  · simp [h.ls]
  · simp [h.lo]
  · obtain ⟨lot, _, ts, e, _⟩ := h.lots.mem hb
    simp [e]
theorem QueAt.has {L : QL} {s : Que} (h : QueAt K H L s) {b : Addr} (hb : b ∈ L.foot) : H b ≠ none := by
  unfold QL.foot at hb
  simp only [List.mem_cons] at hb
  rcases hb with rfl | rfl | hb
  · obtain ⟨dx, e⟩ := h.ob
    simp [e]
  · simp [h.lr]
  · obtain ⟨r, _, dx, e⟩ := h.rs.mem hb
    simp [e]
theorem StoAt.has {L : SL} {s : Sto} (h : StoAt K H L s) {b : Addr} (hb : b ∈ L.foot) : H b ≠ none := by
  unfold SL.foot at hb
  simp only [List.mem_cons, List.mem_append] at hb
  rcases hb with hb | hb | rfl | rfl | hb
  · exact h.d.has hb
  · exact h.q.has hb
  · obtain ⟨dx, e⟩ := h.ob
    simp [e]
  · simp [h.lf]
  · obtain ⟨r, _, dx, e⟩ := h.fs.mem hb
    simp [e]
/-- a store whose disk went on -/
theorem StoAt.withDisk {L : SL} {s : Sto} {D : DL} {d : Dsk} (h : StoAt K H L s) (k : Step L.d.foot D.foot H H') (hd : DiskAt K H' D d) (e : D.d = L.d.d) : StoAt K H' { L with d := D } { s with d := d } ∧ Step L.foot ({ L with d := D } : SL).foot H H' := by
  have nd := h.nd
  rw [List.nodup_append] at nd
  have f : ∀ b, b ∈ L.q.foot ++ (L.st :: L.lf :: L.fs) → b ∉ L.d.foot := fun b hb z => nd.2.2 b z b hb rfl
  refine ⟨⟨h.ob.imp fun dx q => ?_, k.at h.lf (f _ (by simp)), h.fs.imp fun a r ha _ e => e.imp fun dx e => k.at e (f _ (by simp [ha])), h.q.step k fun b hb => f b (by simp [hb]), hd, ?_⟩, ?_⟩
  · show H' L.st = some (.ins _ _ (stoF (.ref D.d) _ _ _ _))
    rw [e]
    exact k.at q (f _ (by simp))
  · exact nd_step k h.nd hd.nd fun b hb => h.has (by unfold SL.foot; simp only [List.mem_append] at hb ⊢; exact .inr hb)
  · refine k.frame (fun b hb => by unfold SL.foot; simp [hb]) fun b hb => ?_
    unfold SL.foot at hb ⊢
    simp only [List.mem_append] at hb ⊢
    rcases hb with hb | hb
    · exact .inl hb
    · exact .inr (.inr hb)
/-- a store whose queue went on -/
theorem StoAt.withQue {L : SL} {s : Sto} {D : QL} {d : Que} (h : StoAt K H L s) (k : Step L.q.foot D.foot H H') (hd : QueAt K H' D d) (e : D.q = L.q.q) : StoAt K H' { L with q := D } { s with q := d } ∧ Step L.foot ({ L with q := D } : SL).foot H H' := by
  have nd : (L.q.foot ++ (L.d.foot ++ (L.st :: L.lf :: L.fs))).Nodup := by
    refine (List.Perm.nodup_iff ?_).mp h.nd
    rw [← List.append_assoc, ← List.append_assoc]
    exact List.perm_append_comm.append_right _
  have nd0 := nd
  rw [List.nodup_append] at nd
  have f : ∀ b, b ∈ L.d.foot ++ (L.st :: L.lf :: L.fs) → b ∉ L.q.foot := fun b hb z => nd.2.2 b z b hb rfl
  refine ⟨⟨h.ob.imp fun dx q => ?_, k.at h.lf (f _ (by simp)), h.fs.imp fun a r ha _ e => e.imp fun dx e => k.at e (f _ (by simp [ha])), hd, h.d.step k fun b hb => f b (by simp [hb]), ?_⟩, ?_⟩
  · show H' L.st = some (.ins _ _ (stoF _ _ _ _ (.ref D.q)))
    rw [e]
    exact k.at q (f _ (by simp))
  · have := nd_step k nd0 hd.nd fun b hb => h.has (by unfold SL.foot; simp only [List.mem_append] at hb ⊢; exact hb.elim .inl (fun z => .inr (.inr z)))
    refine (List.Perm.nodup_iff ?_).mp this
    show (D.foot ++ (L.d.foot ++ _)).Perm (L.d.foot ++ (D.foot ++ _))
    rw [← List.append_assoc, ← List.append_assoc]
    exact List.perm_append_comm.append_right _
  · refine k.frame (fun b hb => by unfold SL.foot; simp [hb]) fun b hb => ?_
    unfold SL.foot at hb ⊢
    simp only [List.mem_append] at hb ⊢
    rcases hb with hb | hb | hb
    · exact .inr (.inl hb)
    · exact .inl hb
    · exact .inr (.inr (.inr hb))
/-- a store whose own part went on -/
theorem StoAt.withOwn {L : SL} {s : Sto} {lf : Addr} {fs : List Addr} {mf md : Int} {frs : List Fra} (h : StoAt K H L s) (k : Step (L.st :: L.lf :: L.fs) (L.st :: lf :: fs) H H')
    (ho : ∃ dx, H' L.st = some (.ins (He.ga K "Store") dx (stoF (.ref L.d.d) (.int mf) (.int md) (.ref lf) (.ref L.q.q)))) (hl : H' lf = some (.lst (fs.map V.ref))) (hf : All2 (FraAt K H') fs frs) (n : (L.st :: lf :: fs).Nodup) :
    StoAt K H' { L with lf := lf, fs := fs } { s with mf := mf, md := md, frs := frs } ∧ Step L.foot ({ L with lf := lf, fs := fs } : SL).foot H H' := by
  have nd : ((L.st :: L.lf :: L.fs) ++ (L.d.foot ++ L.q.foot)).Nodup := by
    refine (List.Perm.nodup_iff ?_).mp h.nd
    rw [← List.append_assoc]
    exact List.perm_append_comm
  have nd0 := nd
  rw [List.nodup_append] at nd
  have f : ∀ b, b ∈ L.d.foot ++ L.q.foot → b ∉ L.st :: L.lf :: L.fs := fun b hb z => nd.2.2 b z b hb rfl
  refine ⟨⟨ho, hl, hf, h.q.step k fun b hb => f b (by simp [hb]), h.d.step k fun b hb => f b (by simp [hb]), ?_⟩, ?_⟩
  · have := nd_step k nd0 n fun b hb => h.has (by unfold SL.foot; simp only [List.mem_append] at hb ⊢; exact hb.elim .inl (fun z => .inr (.inl z)))
    refine (List.Perm.nodup_iff ?_).mp this
    show ((L.st :: lf :: fs) ++ (L.d.foot ++ L.q.foot)).Perm (L.d.foot ++ (L.q.foot ++ (L.st :: lf :: fs)))
    rw [← List.append_assoc L.d.foot]
    exact List.perm_append_comm
  · refine k.frame (fun b hb => by unfold SL.foot; simp only [List.mem_append]; exact .inr (.inr hb)) fun b hb => ?_
    unfold SL.foot at hb ⊢
    simp only [List.mem_append] at hb ⊢
    rcases hb with hb | hb | hb
    · exact .inr (.inl hb)
    · exact .inr (.inr (.inl hb))
    · exact .inl hb
end

/-! ### disks: what is reckoned -/
def setP (l : List Int) (p : Int × Int) : List Int := l.set p.1.toNat p.2
def Dsk.with_ (s : Dsk) (m : Nat) : List Int := ((s.lots.take m).flatten).foldl setP s.sure
def Dsk.shown (s : Dsk) : List Int := s.with_ s.lots.length
theorem setP_len (l : List Int) (p : Int × Int) : (setP l p).length = l.length := by simp [setP]
theorem foldl_setP_len : ∀ (ps : List (Int × Int)) (l : List Int), (ps.foldl setP l).length = l.length
  | [], _ => rfl
  | p :: ps, l => by rw [List.foldl_cons, foldl_setP_len ps, setP_len]
theorem Dsk.with_len (s : Dsk) (m : Nat) : (s.with_ m).length = s.sure.length := foldl_setP_len _ _
theorem Dsk.shown_len (s : Dsk) : s.shown.length = s.sure.length := s.with_len _
/-- rooms in range; not too much -/
structure Dsk.Ok (s : Dsk) : Prop where
  rooms : ∀ lot ∈ s.lots, ∀ p ∈ lot, 0 ≤ p.1 ∧ p.1 < s.sure.length
  ne : s.lots ≠ []
  few : s.lots.flatten.length ≤ 1000000
  lots : s.lots.length ≤ 1000000
  size : 1 ≤ s.sure.length ∧ s.sure.length ≤ 40
end SY

/-! ## Prog, part C: checks, disks -/
namespace SY
open PySem PySem.Spec PyProof.Rows L2 XB
section
variable {K : PySem.W.Frag} {H : Hp} {σ : L2.St} {Qd : Hp → Prop} {a D : Addr} {xs : List V}
/-- [y for x in l for y in x] -/
theorem comp2_flat {i j : Nat} {ins : List (List V)} (hij : i ≠ j) (hi : i < σ.length) (hj : j < σ.length) (hl : SqL K H a xs) (hin : All2 (fun x ys => ∃ c, x = .ref c ∧ SqL K H c ys) xs ins) (hz : ins.flatten.length ≤ 16000000) (hD : H D = none)
    (k : ∀ H1, Same H H1 → H1 D = some (.lst ins.flatten) → Qd H1) :
    ∃ W : Nat → Nat → Hp → Prop, (∃ m, W 0 m (upd H D (.lst []))) ∧ ∀ n m H, W n m H →
      ((Itl K a).stop n H ∧ Qd H) ∨ ((Itl K a).go n H ∧ ∃ Nx : Hp → Prop, (∀ H', Nx H' → ∃ m', m' < m ∧ W (n + 1) m' H') ∧ ∀ x H', (Itl K a).yld n H x H' → gName i x (wipe σ [i, j]) H' fun σ2 H2 => wipe σ2 [i, j] = wipe σ [i, j] ∧ tYes σ2 H2 fun b H3 =>
        if b = true then iList K (tVar i) σ2 H3 fun J1 H4 => ∃ W1 : Nat → Nat → Hp → Prop, (∃ m, W1 0 m H4) ∧ ∀ n1 k H, W1 n1 k H →
          (J1.stop n1 H ∧ Nx H) ∨ (J1.go n1 H ∧ ∃ Nx1 : Hp → Prop, (∀ H', Nx1 H' → ∃ k', k' < k ∧ W1 (n1 + 1) k' H') ∧ ∀ x H', J1.yld n1 H x H' → gName j x (wipe σ2 [j]) H' fun σ3 H5 => wipe σ3 [j] = wipe σ2 [j] ∧ tYes σ3 H5 fun b H6 =>
            if b = true then (tVar j) σ3 H6 fun y H7 => ∃ acc, H7 D = some (.lst acc) ∧ acc.length < sizeLine ∧ Nx1 (upd H7 D (.lst (acc ++ [y]))) else Nx1 H6)
        else Nx H3) := by
  have len := hin.len
  refine ⟨fun n m H1 => m = xs.length - n ∧ n ≤ xs.length ∧ Same H H1 ∧ H1 D = some (.lst (ins.take n).flatten), ⟨_, rfl, Nat.zero_le _, same_upd hD, by rw [upd_same]; rfl⟩, ?_⟩
  rintro n m H1 ⟨rfl, hn, s1, hd⟩
  by_cases hlt : n < xs.length
  · right
    obtain ⟨x, hx⟩ : ∃ x, xs[n]? = some x := ⟨xs[n], List.getElem?_eq_getElem hlt⟩
    obtain ⟨ys, hy, c, rfl, hc⟩ := hin.get hx
    refine ⟨⟨xs, _, s1.seq hl, hx⟩, fun H' => Same H H' ∧ H' D = some (.lst (ins.take (n + 1)).flatten), fun H' h => ⟨_, by omega, rfl, hlt, h⟩, ?_⟩
    rintro y H' ⟨rfl, hyl⟩
    have ey := hyl xs (s1.seq hl)
    rw [hx] at ey
    cases ey
    refine ⟨?_, ?_⟩
    · simp only [wipe]
      rw [List.set_comm _ _ hij.symm]
      simp [List.set_comm _ _ hij.symm]
    unfold tYes
    dsimp only
    rw [if_pos rfl]
    refine ⟨_, by rw [List.getElem?_set_self (by simp [wipe]; exact hi)], c, rfl, ⟨ys, s1.seq hc⟩, ?_⟩
    have etk : ins.take (n + 1) = ins.take n ++ [ys] := by
      rw [List.take_add_one, hy]
      rfl
    have zz : (ins.take n).flatten.length + ys.length ≤ ins.flatten.length := by
      have h1 : (ins.take (n + 1)).flatten.length ≤ ins.flatten.length := by
        conv => rhs; rw [← List.take_append_drop (n + 1) ins, List.flatten_append, List.length_append]
        omega
      rw [etk, List.flatten_append, List.length_append] at h1
      simpa using h1
    refine ⟨fun n1 k H2 => k = ys.length - n1 ∧ n1 ≤ ys.length ∧ Same H H2 ∧ H2 D = some (.lst ((ins.take n).flatten ++ ys.take n1)), ⟨_, rfl, Nat.zero_le _, s1, by simpa using hd⟩, ?_⟩
    rintro n1 k H2 ⟨rfl, hn1, s2, hd2⟩
    by_cases hlt1 : n1 < ys.length
    · right
      obtain ⟨z, hz1⟩ : ∃ z, ys[n1]? = some z := ⟨ys[n1], List.getElem?_eq_getElem hlt1⟩
      refine ⟨⟨ys, _, s2.seq hc, hz1⟩, fun H' => Same H H' ∧ H' D = some (.lst ((ins.take n).flatten ++ ys.take (n1 + 1))), fun H' h => ⟨_, by omega, rfl, hlt1, h⟩, ?_⟩
      rintro y H3 ⟨rfl, hyl1⟩
      have ey := hyl1 ys (s2.seq hc)
      rw [hz1] at ey
      cases ey
      refine ⟨by simp [wipe], ?_⟩
      rw [if_pos rfl]
      refine ⟨_, by rw [List.getElem?_set_self (by simp [wipe]; exact hj)], _, hd2, sz_lt ?_, upd_new s2 hD, ?_⟩
      · rw [List.length_append, List.length_take]
        omega
      · rw [upd_same, List.take_add_one, hz1, List.append_assoc]
        rfl
    · left
      have e : n1 = ys.length := by omega
      subst e
      refine ⟨⟨ys, s2.seq hc, Nat.le_refl _⟩, s2, ?_⟩
      rw [hd2, List.take_length, etk, List.flatten_append]
      simp
  · left
    have e : n = xs.length := by omega
    subst e
    refine ⟨⟨xs, s1.seq hl, Nat.le_refl _⟩, k H1 s1 ?_⟩
    rw [hd, len, List.take_length]
end

/-! ### numbers -/
def sp_is_whole (K : PySem.W.Frag) : Sp := fun vs H Q _ => ∃ x n b c, vs = [x] ∧ TyX K H x (.type n) ∧ kitB n "int" = some b ∧ kitB n "bool" = some c ∧ Q (.bl (b && !c)) H
def t_is_whole (K : PySem.W.Frag) : TS := (tRet (tAndV (tCB (rIsi K) (tCons (tVar 0) (tCons (tC (.ty "int")) tNil))) (tNotV (tCB (rIsi K) (tCons (tVar 0) (tCons (tC (.ty "bool")) tNil))))))
theorem len_is_whole {K : PySem.W.Frag} (vs : List V) (H : Hp) (Q : VK) (E : XK) (h : sp_is_whole K vs H Q E) : vs.length = ["thing"].length := by
  unfold sp_is_whole at h
  repeat (first | (obtain ⟨e, _⟩ := h; rw [e]; done) | (obtain ⟨e, _⟩ := h; rw [e]; rfl; done) | obtain ⟨_, h⟩ := h)
theorem pure_is_whole {K : PySem.W.Frag} (pf : PF K) {vs : List V} {H : Hp} {Q : VK} {E : XK} (h : sp_is_whole K vs H Q E) : t_is_whole K { nx := fun _ H' => Q .non H', rt := Q } (start ["thing"] vs) H := by
  obtain ⟨x, n, b, c, rfl, ty, hb, hc, q⟩ := h
  refine ⟨_, rfl, x, .ty "int", _, _, b, rfl, .ty _, ty, kit_ty hb, b, rfl, ?_⟩
  cases b with
  | false => exact q
  | true => exact ⟨_, rfl, x, .ty "bool", _, _, c, rfl, .ty _, ty, kit_ty hc, c, rfl, q⟩
theorem whole_int {K : PySem.W.Frag} {H : Hp} {Q : VK} {E : XK} (i : Int) (q : Q (.bl true) H) : sp_is_whole K [.int i] H Q E :=
  ⟨.int i, "int", true, false, rfl, .base (.int i), by decide +kernel, by decide +kernel, q⟩
/-- a whole number from low to high -/
def sp_within (K : PySem.W.Frag) : Sp := fun vs H Q _ => ∃ i lo hi : Int, vs = [.int i, .int lo, .int hi] ∧ Q (.bl (decide (lo ≤ i) && decide (i ≤ hi))) H
def t_within (K : PySem.W.Frag) : TS := (tRet (tAndV (tCall (sp_is_whole K) [] E0 (tCons (tVar 0) tNil)) (tChain xLe xLe (tVar 1) (tVar 0) (tVar 2))))
theorem len_within {K : PySem.W.Frag} (vs : List V) (H : Hp) (Q : VK) (E : XK) (h : sp_within K vs H Q E) : vs.length = ["thing", "low", "high"].length := by
  unfold sp_within at h
  repeat (first | (obtain ⟨e, _⟩ := h; rw [e]; done) | (obtain ⟨e, _⟩ := h; rw [e]; rfl; done) | obtain ⟨_, h⟩ := h)
theorem pure_within {K : PySem.W.Frag} (pf : PF K) {vs : List V} {H : Hp} {Q : VK} {E : XK} (h : sp_within K vs H Q E) : t_within K { nx := fun _ H' => Q .non H', rt := Q } (start ["thing", "low", "high"] vs) H := by
  obtain ⟨i, lo, hi, rfl, q⟩ := h
  refine ⟨_, rfl, .int i, "int", true, false, rfl, .base (.int _), by decide +kernel, by decide +kernel, true, rfl, ?_⟩
  refine iteT ?_
  refine ⟨_, rfl, _, rfl, _, _, rfl, rfl, _, rfl, ?_⟩
  by_cases hl : lo ≤ i
  · rw [decide_eq_true hl] at q ⊢
    rw [if_pos rfl]
    exact ⟨_, rfl, _, _, rfl, rfl, q⟩
  · rw [decide_eq_false hl] at q ⊢
    rw [if_neg Bool.false_ne_true]
    exact q
theorem within_no {i lo hi : Int} {A B : Prop} (h1 : lo ≤ i) (h2 : i ≤ hi) (b : B) : if (!(decide (lo ≤ i) && decide (i ≤ hi))) = true then A else B := by
  rw [decide_eq_true h1, decide_eq_true h2]
  exact b
theorem ifeq {b c : Bool} {A B : Prop} (h : b = c) (k : if c = true then A else B) : if b = true then A else B := h ▸ k
theorem iteN {b : Bool} {A B : Prop} (h : b = false) (k : B) : if b = true then A else B := by
  subst h
  exact k
theorem iteY {b : Bool} {A B : Prop} (h : b = true) (k : A) : if b = true then A else B := by
  subst h
  exact k

/-! ### disks -/
def Dsk.new (n : Nat) : Dsk := ⟨List.replicate n 0, [[]], none⟩
def sp_Disk_init (K : PySem.W.Frag) : Sp := fun vs H Q _ => ∃ (x dx : Addr) (n : Nat), vs = [.ref x, .int n] ∧ H x = some (.ins (He.ga K "Disk") dx []) ∧ 1 ≤ n ∧ n ≤ 40 ∧ ∀ L H', DiskAt K H' L (Dsk.new n) → L.d = x → Step [x] L.foot H H' → Q .non H'
def t_Disk_init (K : PySem.W.Frag) : TS := (tSeq (tIfS (tNot (tB (tCall (sp_within K) [] E0 (tCons (tVar 1) (tCons (tC (.int 1)) (tCons (tC (.int 40)) tNil)))))) tNever tNext)
    (tSeq (sFld K (tVar 0) (tOp rRep (tLst (tCons (tC (.int 0)) tNil)) (tVar 1)) "sure")
    (tSeq (sFld K (tVar 0) (tLst (tCons (tLst tNil) tNil)) "open_lots")
    (sFld K (tVar 0) (tC .non) "left"))))
theorem len_Disk_init {K : PySem.W.Frag} (vs : List V) (H : Hp) (Q : VK) (E : XK) (h : sp_Disk_init K vs H Q E) : vs.length = ["self", "rooms"].length := by
  unfold sp_Disk_init at h
  repeat (first | (obtain ⟨e, _⟩ := h; rw [e]; done) | (obtain ⟨e, _⟩ := h; rw [e]; rfl; done) | obtain ⟨_, h⟩ := h)
theorem pure_Disk_init {K : PySem.W.Frag} (pf : PF K) {vs : List V} {H : Hp} {Q : VK} {E : XK} (h : sp_Disk_init K vs H Q E) : t_Disk_init K { nx := fun _ H' => Q .non H', rt := Q } (start ["self", "rooms"] vs) H := by
  obtain ⟨x, dx, n, rfl, hx, h1, h2, q⟩ := h
  refine ⟨_, rfl, n, 1, 40, rfl, _, rfl, within_no (by omega) (by omega) ?_⟩
  refine ⟨of_decide_eq_true rfl, fun l hl => ⟨_, rfl, l, n, [.int 0], rfl, rfl, upd_same, by omega, by omega, Nat.le_trans (by simp; omega) (by decide : 40 ≤ sizeLine), fun p hp => ?_⟩⟩
  have hx1 := same_upd (o := .lst [V.int 0]) hl _ _ hx
  have hx2 := same_upd (o := .lst ((List.replicate (n : Int).toNat [V.int 0]).flatten)) hp _ _ hx1
  refine ⟨_, rfl, x, _, dx, [], rfl, hx2, pf.cl_Disk, pf.na_Disk_sure, of_decide_eq_true rfl, ?_⟩
  have npx : p ≠ x := (ne_of_none hx1 hp).symm
  refine ⟨of_decide_eq_true rfl, fun a ha => ⟨of_decide_eq_true rfl, fun o ho => ⟨_, rfl, x, _, dx, _, rfl, (upd_ne (ne_of_none ((upd_ne (ne_of_none upd_same ha)).trans upd_same) ho)).trans ((upd_ne (ne_of_none upd_same ha)).trans upd_same), pf.cl_Disk, pf.na_Disk_open_lots, of_decide_eq_true rfl, ?_⟩⟩⟩
  have nax : a ≠ x := (ne_of_none upd_same ha).symm
  have nap : a ≠ p := fun z => by
    rw [z, upd_ne npx, upd_same] at ha
    cases ha
  have nox : o ≠ x := fun z => by
    rw [z, upd_ne (Ne.symm nax), upd_same] at ho
    cases ho
  have noa : o ≠ a := fun z => by
    rw [z, upd_same] at ho
    cases ho
  have nop : o ≠ p := fun z => by
    rw [z, upd_ne (Ne.symm nap), upd_ne npx, upd_same] at ho
    cases ho
  refine ⟨_, rfl, x, _, dx, _, rfl, upd_same, pf.cl_Disk, pf.na_Disk_left, of_decide_eq_true rfl, ?_⟩
  refine q ⟨x, p, o, [a]⟩ _ ⟨⟨dx, upd_same⟩, ?_, ?_, .one ⟨[], ?_, .nil⟩, ?_⟩ rfl ?_
  · show upd _ x _ p = _
    rw [upd_ne npx, upd_ne npx, upd_ne (Ne.symm nop), upd_ne (Ne.symm nap), upd_ne npx, upd_same]
    simp [Dsk.new]
  · show upd _ x _ o = _
    rw [upd_ne nox, upd_ne nox, upd_same]
    rfl
  · show upd _ x _ a = _
    rw [upd_ne nax, upd_ne nax, upd_ne (Ne.symm noa), upd_same]
    rfl
  · simp [npx.symm, nox.symm, nax.symm, nop.symm, nap.symm, noa]
  · have s1 : Step [x] [x] H _ := Step.same [x] (same_upd (o := .lst [V.int 0]) hl)
    have s2 := s1.seq (same_upd (o := .lst ((List.replicate (n : Int).toNat [V.int 0]).flatten)) hp)
    have hpH : H p = none := (same_upd (o := .lst [V.int 0]) hl).free hp
    have s3 := s2.upd (a := x) (o := .ins (He.ga K "Disk") dx (putF "sure" (.ref p) [])) (.inr ⟨by simp, fun xs => nt_ins hx2⟩)
    have s4 := s3.seq (same_upd (o := .lst []) ha)
    have s5 := s4.seq (same_upd (o := .lst [.ref a]) ho)
    have s6 := s5.upd (a := x) (o := .ins (He.ga K "Disk") dx (putF "open_lots" (.ref o) (putF "sure" (.ref p) []))) (.inr ⟨by simp, fun xs => by rw [upd_ne nox.symm, upd_ne nax.symm, upd_same]; intro z; cases z⟩)
    have s7 := s6.upd (a := x) (o := .ins (He.ga K "Disk") dx (putF "left" .non (putF "open_lots" (.ref o) (putF "sure" (.ref p) [])))) (.inr ⟨by simp, fun xs => by rw [upd_same]; intro z; cases z⟩)
    refine s7.sub fun b hb => ?_
    have fr : ∀ {c : Addr}, c ≠ x → (upd (upd (upd H l (.lst [V.int 0])) p (.lst ((List.replicate (n : Int).toNat [V.int 0]).flatten))) x (.ins (He.ga K "Disk") dx (putF "sure" (.ref p) []))) c = none → H c = none := fun {c} n h => by
      rw [upd_ne n] at h
      exact ((same_upd hl).trans (same_upd hp)).free h
    unfold DL.foot at hb
    simp only [List.mem_cons, List.not_mem_nil, or_false] at hb
    rcases hb with rfl | rfl | rfl | rfl
    · exact .inl (by simp)
    · exact .inr hpH
    · exact .inr (fr nox ((same_upd ha).free ho))
    · exact .inr (fr nax ha)
def sp_Disk_rooms (K : PySem.W.Frag) : Sp := fun vs H Q _ => ∃ L s, vs = [.ref L.d] ∧ DiskAt K H L s ∧ Q (.int s.sure.length) H
def t_Disk_rooms (K : PySem.W.Frag) : TS := (tRet (tCB (xLen K) (tCons (tFld K (tVar 0) "sure") tNil)))
theorem len_Disk_rooms {K : PySem.W.Frag} (vs : List V) (H : Hp) (Q : VK) (E : XK) (h : sp_Disk_rooms K vs H Q E) : vs.length = ["self"].length := by
  unfold sp_Disk_rooms at h
  repeat (first | (obtain ⟨e, _⟩ := h; rw [e]; done) | (obtain ⟨e, _⟩ := h; rw [e]; rfl; done) | obtain ⟨_, h⟩ := h)
theorem pure_Disk_rooms {K : PySem.W.Frag} (pf : PF K) {vs : List V} {H : Hp} {Q : VK} {E : XK} (h : sp_Disk_rooms K vs H Q E) : t_Disk_rooms K { nx := fun _ H' => Q .non H', rt := Q } (start ["self"] vs) H := by
  obtain ⟨L, s, rfl, h, q⟩ := h
  obtain ⟨dx, ho⟩ := h.ob
  refine ⟨_, rfl, _, _, _, _, _, rfl, ho, pf.cl_Disk, pf.na_Disk_sure, rfl, _, _, rfl, .inl (SqL.of h.ls), ?_⟩
  rw [List.length_map]
  exact q
def sp_Disk_lasting (K : PySem.W.Frag) : Sp := fun vs H Q _ => ∃ L s, vs = [.ref L.d] ∧ DiskAt K H L s ∧ ∀ p H', H p = none → Same H H' → H' p = some (.lst (s.sure.map V.int)) → Q (.ref p) H'
def t_Disk_lasting (K : PySem.W.Frag) : TS := (tRet (tCB (xList K) (tCons (tFld K (tVar 0) "sure") tNil)))
theorem len_Disk_lasting {K : PySem.W.Frag} (vs : List V) (H : Hp) (Q : VK) (E : XK) (h : sp_Disk_lasting K vs H Q E) : vs.length = ["self"].length := by
  unfold sp_Disk_lasting at h
  repeat (first | (obtain ⟨e, _⟩ := h; rw [e]; done) | (obtain ⟨e, _⟩ := h; rw [e]; rfl; done) | obtain ⟨_, h⟩ := h)
theorem pure_Disk_lasting {K : PySem.W.Frag} (pf : PF K) {vs : List V} {H : Hp} {Q : VK} {E : XK} (h : sp_Disk_lasting K vs H Q E) : t_Disk_lasting K { nx := fun _ H' => Q .non H', rt := Q } (start ["self"] vs) H := by
  obtain ⟨L, s, rfl, h, q⟩ := h
  obtain ⟨dx, ho⟩ := h.ob
  exact ⟨_, rfl, _, _, _, _, _, rfl, ho, pf.cl_Disk, pf.na_Disk_sure, rfl, _, _, rfl, .inl (SqL.of h.ls), fun p hp => q p _ hp (same_upd hp) upd_same⟩
def sp_Disk_lots (K : PySem.W.Frag) : Sp := fun vs H Q _ => ∃ L s, vs = [.ref L.d] ∧ DiskAt K H L s ∧ s.lots.length ≤ 16000000 ∧ ∀ p ps H', H p = none → Same H H' → H' p = some (.lst (ps.map V.ref)) → All2 (fun a lot => H a = none ∧ LotAt H' a lot) ps s.lots → (p :: ps).Nodup → Q (.ref p) H'
def t_Disk_lots (K : PySem.W.Frag) : TS := (tRet (tLc (iList K (tFld K (tVar 0) "open_lots")) (gName 1) tYes (tCB (xList K) (tCons (tVar 1) tNil)) [1]))
theorem len_Disk_lots {K : PySem.W.Frag} (vs : List V) (H : Hp) (Q : VK) (E : XK) (h : sp_Disk_lots K vs H Q E) : vs.length = ["self"].length := by
  unfold sp_Disk_lots at h
  repeat (first | (obtain ⟨e, _⟩ := h; rw [e]; done) | (obtain ⟨e, _⟩ := h; rw [e]; rfl; done) | obtain ⟨_, h⟩ := h)
theorem pure_Disk_lots {K : PySem.W.Frag} (pf : PF K) {vs : List V} {H : Hp} {Q : VK} {E : XK} (h : sp_Disk_lots K vs H Q E) : t_Disk_lots K { nx := fun _ H' => Q .non H', rt := Q } (start ["self", "lot"] vs) H := by
  obtain ⟨L, s, rfl, h, hz, q⟩ := h
  obtain ⟨dx, ho⟩ := h.ob
  refine ⟨_, rfl, _, _, _, _, _, rfl, ho, pf.cl_Disk, pf.na_Disk_open_lots, rfl, _, rfl, ⟨_, SqL.of h.lo⟩, ?_⟩
  intro D hD
  have len := h.lots.len
  refine lc_list (K := K) (a := L.lo) (xs := L.lots.map V.ref) (fun n H1 => Same H H1 ∧ ∃ ps, H1 D = some (.lst (ps.map V.ref)) ∧ All2 (fun a lot => H a = none ∧ LotAt H1 a lot) ps (s.lots.take n) ∧ (D :: ps).Nodup)
    ⟨same_upd hD, [], by rw [upd_same]; rfl, by rw [List.take_zero]; exact .nil, by simp⟩ (fun n H1 _ h1 => h1.1.seq (SqL.of h.lo)) ?_ ?_
  · rintro n x H1 hx ⟨s1, ps, hv, hA, nd⟩
    rw [List.getElem?_map] at hx
    obtain ⟨a, ha, rfl⟩ := Option.map_eq_some_iff.mp hx
    obtain ⟨lot, hl, ts, e, tt⟩ := h.lots.get ha
    have e1 := s1 _ _ e
    refine ⟨by simp [wipe], ?_⟩
    unfold tYes
    dsimp only
    rw [if_pos rfl]
    refine ⟨_, rfl, a, _, rfl, .inl (SqL.of e1), fun p hp => ?_⟩
    have npD : p ≠ D := (ne_of_none hv hp).symm
    have lz : ps.length ≤ s.lots.length := by
      rw [hA.len, List.length_take]
      omega
    have hD1 := same_upd (o := .lst (ts.map V.ref)) hp _ _ hv
    refine ⟨_, hD1, sz_lt (by rw [List.length_map]; omega), ?_⟩
    have hpH : H p = none := s1.free hp
    refine ⟨upd_new (s1.trans (same_upd hp)) hD, ps ++ [p], by rw [upd_same, List.map_append]; rfl, ?_, ?_⟩
    · rw [List.take_add_one, hl]
      have kd : ∀ c o, H1 c = some o → c ≠ D → (upd (upd H1 p (.lst (ts.map V.ref))) D (.lst (ps.map V.ref ++ [V.ref p]))) c = some o := fun c o e n => by
        rw [upd_ne n]
        exact same_upd hp _ _ e
      have hA2 : All2 (fun a lot => H a = none ∧ LotAt (upd (upd H1 p (.lst (ts.map V.ref))) D (.lst (ps.map V.ref ++ [V.ref p]))) a lot) ps (s.lots.take n) := hA.imp fun a lot ha _ h2 => by
        obtain ⟨fr, ts, e, tt⟩ := h2
        refine ⟨fr, ts, kd _ _ e fun z => ?_, tt.imp fun t p _ _ e => kd _ _ e (ne_lst_tup hv e)⟩
        exact (List.nodup_cons.mp nd).1 (z ▸ ha)
      refine hA2.append (.one ⟨hpH, ts, by rw [upd_ne npD, upd_same], tt.imp fun t p _ _ e => ?_⟩)
      exact kd _ _ (s1 _ _ e) (ne_lst_tup hv (s1 _ _ e))
    · have hn := List.nodup_cons.mp nd
      refine List.nodup_cons.mpr ⟨by simp [hn.1, npD.symm], ?_⟩
      rw [List.nodup_append]
      refine ⟨hn.2, by simp, fun b hb c hc e => ?_⟩
      rw [List.mem_singleton] at hc
      subst hc e
      obtain ⟨lot, _, _, ts, e, _⟩ := hA.mem hb
      rw [hp] at e
      cases e
  · rintro H1 ⟨s1, ps, hv, hA, nd⟩
    rw [List.length_map, len, List.take_length] at hA
    exact q D ps H1 hD s1 hv hA nd
def sp_Disk_with_lots (K : PySem.W.Frag) : Sp := fun vs H Q _ => ∃ L s m, vs = [.ref L.d, .int (m : Nat)] ∧ DiskAt K H L s ∧ s.Ok ∧ m ≤ s.lots.length ∧ ∀ p H', H p = none → Same H H' → H' p = some (.lst ((s.with_ m).map V.int)) → Q (.ref p) H'
def t_Disk_with_lots (K : PySem.W.Frag) : TS := (tSeq (tAsg (tCB (xList K) (tCons (tFld K (tVar 0) "sure") tNil)) (gName 2))
    (tSeq (tFor (iList K (tLc2 (iList K (tSl (rSlL K) (tFld K (tVar 0) "open_lots") tNoPart (tPart (tVar 1)))) (gName 5) tYes (iList K (tVar 5)) (gName 6) tYes (tVar 6) [5, 6] [6])) (gTup K 2 (gCons (gName 3) (gCons (gName 4) gNil))) (tAsg (tVar 4) (gSub (tVar 2) (tVar 3) rSetL)))
    (tRet (tVar 2))))
theorem len_Disk_with_lots {K : PySem.W.Frag} (vs : List V) (H : Hp) (Q : VK) (E : XK) (h : sp_Disk_with_lots K vs H Q E) : vs.length = ["self", "many"].length := by
  unfold sp_Disk_with_lots at h
  repeat (first | (obtain ⟨e, _⟩ := h; rw [e]; done) | (obtain ⟨e, _⟩ := h; rw [e]; rfl; done) | obtain ⟨_, h⟩ := h)
theorem pure_Disk_with_lots {K : PySem.W.Frag} (pf : PF K) {vs : List V} {H : Hp} {Q : VK} {E : XK} (h : sp_Disk_with_lots K vs H Q E) : t_Disk_with_lots K { nx := fun _ H' => Q .non H', rt := Q } (start ["self", "many", "found", "room", "number", "lot", "pair"] vs) H := by
  obtain ⟨L, s, m, rfl, h, ok, hm, q⟩ := h
  obtain ⟨dx, ho⟩ := h.ob
  refine ⟨_, rfl, _, _, _, _, _, rfl, ho, pf.cl_Disk, pf.na_Disk_sure, rfl, _, _, rfl, .inl (SqL.of h.ls), fun p hp => ?_⟩
  have s1 := same_upd (o := .lst (s.sure.map V.int)) hp
  have h1 := h.same s1
  obtain ⟨dx1, ho1⟩ := h1.ob
  refine ⟨_, rfl, _, _, _, _, _, rfl, ho1, pf.cl_Disk, pf.na_Disk_open_lots, rfl, _, rfl, _, rfl, _, _, rfl, SqL.of h1.lo, fun c hc => ?_⟩
  have s2 := same_upd (o := .lst (cutV (L.lots.map V.ref) none (some (m : Int)))) hc
  refine ⟨c, rfl, ⟨_, SqL.of upd_same⟩, ?_⟩
  have len := h.lots.len
  have ecut : cutV (L.lots.map V.ref) none (some (m : Int)) = (L.lots.take m).map V.ref := by
    unfold cutV HT.sIx
    dsimp only
    rw [if_neg (by omega), List.length_map, List.map_take]
    simp only [List.drop_zero, Nat.sub_zero, Int.toNat_natCast]
    congr 1
    omega
  intro D hD
  have h2 := h1.same s2
  obtain ⟨ins, hins, hflat⟩ : ∃ ins : List (List Addr), All2 (fun a ts => (upd (upd H p (.lst (s.sure.map V.int))) c (.lst (cutV (L.lots.map V.ref) none (some (m : Int))))) a = some (.lst (ts.map V.ref))) (L.lots.take m) ins ∧ All2 (TupAt (upd (upd H p (.lst (s.sure.map V.int))) c (.lst (cutV (L.lots.map V.ref) none (some (m : Int)))))) ins.flatten (s.lots.take m).flatten := by
    have : ∀ {as : List Addr} {ls : List (List (Int × Int))} (Hx : Hp), All2 (LotAt Hx) as ls → ∃ ins : List (List Addr), All2 (fun a ts => Hx a = some (.lst (ts.map V.ref))) as ins ∧ All2 (TupAt Hx) ins.flatten ls.flatten := by
      intro as ls Hx h
      induction h with
      | nil => exact ⟨[], .nil, .nil⟩
      | cons r t ih =>
        obtain ⟨ts, e, tt⟩ := r
        obtain ⟨ins, i1, i2⟩ := ih
        exact ⟨ts :: ins, .cons e i1, by simpa using tt.append i2⟩
    refine this _ ?_
    have := h2.lots
    have tk : ∀ {α β : Type} {R : α → β → Prop} {xs : List α} {ys : List β} (n : Nat), All2 R xs ys → All2 R (xs.take n) (ys.take n) := by
      intro α β R xs ys n h
      induction h generalizing n with
      | nil => simp; exact .nil
      | cons r t ih =>
        cases n with
        | zero => simp; exact .nil
        | succ n => simp; exact .cons r (ih n)
    exact tk m this
  have lfl : ins.flatten.length ≤ 1000000 := by
    rw [hflat.len]
    refine Nat.le_trans ?_ ok.few
    conv => rhs; rw [← List.take_append_drop m s.lots, List.flatten_append, List.length_append]
    omega
  refine comp2_flat (ins := ins.map fun ts => ts.map V.ref) (i := 5) (j := 6) (of_decide_eq_true rfl) ?_ ?_ (SqL.of (by rw [upd_same, ecut])) ?_ ?_ hD ?_
  · exact of_decide_eq_true rfl
  · exact of_decide_eq_true rfl
  · have gen : ∀ {as : List Addr} {ins : List (List Addr)} (Hx : Hp), All2 (fun a ts => Hx a = some (.lst (ts.map V.ref))) as ins → All2 (fun x ys => ∃ c, x = V.ref c ∧ SqL K Hx c ys) (as.map V.ref) (ins.map fun ts => ts.map V.ref) := by
      intro as ins Hx h
      induction h with
      | nil => exact .nil
      | cons r t ih => exact .cons ⟨_, rfl, SqL.of r⟩ ih
    exact gen _ hins
  · rw [← List.map_flatten, List.length_map]
    omega
  intro H3 s3 hD3
  rw [← List.map_flatten] at hD3
  refine ⟨D, rfl, ⟨_, SqL.of hD3⟩, ?_⟩
  have hp3 : H3 p = some (.lst (s.sure.map V.int)) := s3 _ _ (s2 _ _ upd_same)
  have hDp : D ≠ p := (ne_of_none (s2 _ _ upd_same) hD).symm
  refine for_list (xs := ins.flatten.map V.ref) (fun n σ H4 => Same H H4 ∧ H4 D = some (.lst (ins.flatten.map V.ref)) ∧ H4 p = some (.lst ((((s.lots.take m).flatten.take n).foldl setP s.sure).map V.int)) ∧ ∃ v3 v4 v5 v6, σ = [some (.ref L.d), some (.int m), some (.ref p), v3, v4, v5, v6])
    ⟨((s1.trans s2).trans s3), hD3, hp3, _, _, _, _, rfl⟩ (fun n σ H4 _ h4 => SqL.of h4.2.1) ?_ ?_
  · rintro n x σ H4 hx ⟨s4, hD4, hp4, v3, v4, v5, v6, rfl⟩
    rw [List.getElem?_map] at hx
    obtain ⟨t, ht, rfl⟩ := Option.map_eq_some_iff.mp hx
    obtain ⟨pr, hpr, tt⟩ := hflat.get ht
    have hin : pr ∈ (s.lots.take m).flatten := List.mem_of_getElem? hpr
    obtain ⟨lot, hlot, hin2⟩ := List.mem_flatten.mp hin
    have rg := ok.rooms lot (List.mem_of_mem_take hlot) pr hin2
    have tH : H4 t = some (.tup [.int pr.1, .int pr.2]) := by
      have a1 : H t ≠ none → H4 t = some (.tup [.int pr.1, .int pr.2]) := fun z => by
        cases e : H t with
        | none => exact absurd e z
        | some o =>
          have := (s1.trans s2) _ _ e
          rw [show _ = some _ from tt] at this
          cases this
          exact s4 _ _ e
      refine a1 fun z => ?_
      have nt1 : t ≠ c := fun e => by
        rw [e] at tt
        unfold TupAt at tt
        rw [upd_same] at tt
        cases tt
      have nt2 : t ≠ p := fun e => by
        rw [e] at tt
        have := s2 _ _ (upd_same (H := H) (a := p) (o := .lst (s.sure.map V.int)))
        rw [show _ = some _ from tt] at this
        cases this
      unfold TupAt at tt
      rw [upd_ne nt1, upd_ne nt2, z] at tt
      cases tt
    refine ⟨t, _, rfl, SqT.of tH, rfl, _, _, rfl, _, _, rfl, rfl, ?_⟩
    refine ⟨_, rfl, _, rfl, _, rfl, p, _, pr.1, pr.1.toNat, rfl, rfl, hp4, ?_, ?_⟩
    · have lt : pr.1.toNat < (((((s.lots.take m).flatten.take n).foldl setP s.sure).map V.int)).length := by
        rw [List.length_map, foldl_setP_len]
        omega
      have e := ixN_of lt
      rw [Int.toNat_of_nonneg rg.1] at e
      exact e
    · refine ⟨upd_new s4 hp, by rw [upd_ne hDp]; exact hD4, ?_, _, _, _, _, rfl⟩
      rw [upd_same, List.take_add_one, hpr, List.foldl_append]
      simp only [Option.toList_some, List.foldl_cons, List.foldl_nil, setP, List.map_set]
  · rintro σ H4 ⟨s4, hD4, hp4, v3, v4, v5, v6, rfl⟩
    refine ⟨_, rfl, q p H4 hp s4 ?_⟩
    rw [hp4, List.length_map, hflat.len, List.take_length]
    rfl
def sp_Disk_shown (K : PySem.W.Frag) : Sp := fun vs H Q _ => ∃ L s, vs = [.ref L.d] ∧ DiskAt K H L s ∧ s.Ok ∧ ∀ p H', H p = none → Same H H' → H' p = some (.lst (s.shown.map V.int)) → Q (.ref p) H'
def t_Disk_shown (K : PySem.W.Frag) : TS := (tRet (tMeth (He.ga K "Disk") "with_lots" (sp_Disk_with_lots K) [] E0 (tVar 0) (tCons (tCB (xLen K) (tCons (tFld K (tVar 0) "open_lots") tNil)) tNil)))
theorem len_Disk_shown {K : PySem.W.Frag} (vs : List V) (H : Hp) (Q : VK) (E : XK) (h : sp_Disk_shown K vs H Q E) : vs.length = ["self"].length := by
  unfold sp_Disk_shown at h
  repeat (first | (obtain ⟨e, _⟩ := h; rw [e]; done) | (obtain ⟨e, _⟩ := h; rw [e]; rfl; done) | obtain ⟨_, h⟩ := h)
theorem pure_Disk_shown {K : PySem.W.Frag} (pf : PF K) {vs : List V} {H : Hp} {Q : VK} {E : XK} (h : sp_Disk_shown K vs H Q E) : t_Disk_shown K { nx := fun _ H' => Q .non H', rt := Q } (start ["self"] vs) H := by
  obtain ⟨L, s, rfl, h, ok, q⟩ := h
  obtain ⟨dx, ho⟩ := h.ob
  refine ⟨_, rfl, L.d, dx, _, rfl, ho, rfl, _, rfl, _, _, _, _, _, rfl, ho, pf.cl_Disk, pf.na_Disk_open_lots, rfl, _, _, rfl, .inl (SqL.of h.lo), L, s, s.lots.length, ?_, h, ok, Nat.le_refl _, q⟩
  rw [List.length_map, h.lots.len]
  rfl
def sp_Disk_turn (K : PySem.W.Frag) : Sp := fun vs H Q _ => ∃ L s, vs = [.ref L.d] ∧ DiskAt K H L s ∧ s.left = none ∧ Q .non H
def t_Disk_turn (K : PySem.W.Frag) : TS := (tSeq (tIfS (tTest (tOp rEq (tFld K (tVar 0) "left") (tC (.int 0)))) tNever tNext)
    (tIfS (tTest (tOp xNotN (tFld K (tVar 0) "left") (tC .non))) (sFldAug K (tVar 0) (tC (.int 1)) rSub "left") tNext))
theorem len_Disk_turn {K : PySem.W.Frag} (vs : List V) (H : Hp) (Q : VK) (E : XK) (h : sp_Disk_turn K vs H Q E) : vs.length = ["self"].length := by
  unfold sp_Disk_turn at h
  repeat (first | (obtain ⟨e, _⟩ := h; rw [e]; done) | (obtain ⟨e, _⟩ := h; rw [e]; rfl; done) | obtain ⟨_, h⟩ := h)
theorem pure_Disk_turn {K : PySem.W.Frag} (pf : PF K) {vs : List V} {H : Hp} {Q : VK} {E : XK} (h : sp_Disk_turn K vs H Q E) : t_Disk_turn K { nx := fun _ H' => Q .non H', rt := Q } (start ["self"] vs) H := by
  obtain ⟨L, s, rfl, h, hl, q⟩ := h
  obtain ⟨dx, ho⟩ := h.ob
  rw [hl] at ho
  refine ⟨_, rfl, _, _, _, _, _, rfl, ho, pf.cl_Disk, pf.na_Disk_left, rfl, rfl, _, rfl, iteN (by decide) ?_⟩
  exact ⟨_, rfl, _, _, _, _, _, rfl, ho, pf.cl_Disk, pf.na_Disk_left, rfl, rfl, _, rfl, iteN (by decide) q⟩
def sp_Disk_ask_read (K : PySem.W.Frag) : Sp := fun vs H Q _ => ∃ L s room v, vs = [.ref L.d, .int room] ∧ DiskAt K H L s ∧ s.Ok ∧ s.left = none ∧ 0 ≤ room ∧ s.shown[room.toNat]? = some v ∧ ∀ H', Same H H' → Q (.int v) H'
def t_Disk_ask_read (K : PySem.W.Frag) : TS := (tSeq (tDrop (tMeth (He.ga K "Disk") "turn" (sp_Disk_turn K) [] E0 (tVar 0) tNil))
    (tRet (tOp (rIxL K) (tMeth (He.ga K "Disk") "shown" (sp_Disk_shown K) [] E0 (tVar 0) tNil) (tVar 1))))
theorem len_Disk_ask_read {K : PySem.W.Frag} (vs : List V) (H : Hp) (Q : VK) (E : XK) (h : sp_Disk_ask_read K vs H Q E) : vs.length = ["self", "room"].length := by
  unfold sp_Disk_ask_read at h
  repeat (first | (obtain ⟨e, _⟩ := h; rw [e]; done) | (obtain ⟨e, _⟩ := h; rw [e]; rfl; done) | obtain ⟨_, h⟩ := h)
theorem pure_Disk_ask_read {K : PySem.W.Frag} (pf : PF K) {vs : List V} {H : Hp} {Q : VK} {E : XK} (h : sp_Disk_ask_read K vs H Q E) : t_Disk_ask_read K { nx := fun _ H' => Q .non H', rt := Q } (start ["self", "room"] vs) H := by
  obtain ⟨L, s, room, v, rfl, h, ok, hl, h0, hv, q⟩ := h
  obtain ⟨dx, ho⟩ := h.ob
  refine ⟨_, rfl, L.d, dx, _, rfl, ho, rfl, L, s, rfl, h, hl, ?_⟩
  refine ⟨_, rfl, L.d, dx, _, rfl, ho, rfl, L, s, rfl, h, ok, fun p H' hp s1 e => ⟨_, rfl, p, _, room, .int v, rfl, rfl, SqL.of e, ?_, q H' s1⟩⟩
  have : room = ((room.toNat : Nat) : Int) := by omega
  rw [this]
  refine atI_of ?_
  rw [List.getElem?_map, hv]
  rfl
end SY

/-! ## Prog, part D: disks' turns, requests, queues -/
namespace SY
open PySem PySem.Spec PyProof.Rows L2 XB
/-- one of them has changed -/
theorem All2.upd_at {α β : Type} {R R' : α → β → Prop} {a : α} {b' : β} : ∀ {xs : List α} {ys : List β} {i : Nat}, All2 R xs ys → xs.Nodup → xs[i]? = some a → R' a b' → (∀ x y, x ∈ xs → x ≠ a → R x y → R' x y) → All2 R' xs (ys.set i b')
  | _, _, _, .nil, _, hi, _, _ => by simp at hi
  | x :: xs, y :: ys, 0, .cons r t, nd, hi, r', f => by
    rw [List.getElem?_cons_zero] at hi
    cases hi
    refine .cons r' (All2.imp t fun u v hu _ h => f u v (List.mem_cons_of_mem _ hu) (fun e => (List.nodup_cons.mp nd).1 (e ▸ hu)) h)
  | x :: xs, y :: ys, i + 1, .cons r t, nd, hi, r', f => by
    rw [List.getElem?_cons_succ] at hi
    have hm := List.mem_of_getElem? hi
    refine .cons (f x y List.mem_cons_self (fun e => (List.nodup_cons.mp nd).1 (e ▸ hm)) r) (All2.upd_at t (List.nodup_cons.mp nd).2 hi r' fun u v hu n h => f u v (List.mem_cons_of_mem _ hu) n h)
def addLast {α : Type} (ls : List (List α)) (x : α) : List (List α) := ls.set (ls.length - 1) ((ls.getLast?.getD []) ++ [x])
def Dsk.write (s : Dsk) (room num : Int) : Dsk := { s with lots := addLast s.lots (room, num) }
def Dsk.barrier (s : Dsk) : Dsk := { s with lots := s.lots ++ [[]] }
def Dsk.flush (s : Dsk) : Dsk := { s with sure := s.shown, lots := [[]] }
def sp_Disk_ask_write (K : PySem.W.Frag) : Sp := fun vs H Q _ => ∃ L s room num, vs = [.ref L.d, .int room, .int num] ∧ DiskAt K H L s ∧ s.Ok ∧ s.left = none ∧ ∀ L' H', DiskAt K H' L' (s.write room num) → L'.d = L.d → Step L.foot L'.foot H H' → Q .non H'
def t_Disk_ask_write (K : PySem.W.Frag) : TS := (tSeq (tDrop (tMeth (He.ga K "Disk") "turn" (sp_Disk_turn K) [] E0 (tVar 0) tNil))
    (tDrop (tBM K "list" rAppend (tOp (rIxL K) (tFld K (tVar 0) "open_lots") (tUn xNeg (tC (.int 1)))) (tCons (tTup (tCons (tVar 1) (tCons (tVar 2) tNil))) tNil))))
theorem len_Disk_ask_write {K : PySem.W.Frag} (vs : List V) (H : Hp) (Q : VK) (E : XK) (h : sp_Disk_ask_write K vs H Q E) : vs.length = ["self", "room", "number"].length := by
  unfold sp_Disk_ask_write at h
  repeat (first | (obtain ⟨e, _⟩ := h; rw [e]; done) | (obtain ⟨e, _⟩ := h; rw [e]; rfl; done) | obtain ⟨_, h⟩ := h)
theorem pure_Disk_ask_write {K : PySem.W.Frag} (pf : PF K) {vs : List V} {H : Hp} {Q : VK} {E : XK} (h : sp_Disk_ask_write K vs H Q E) : t_Disk_ask_write K { nx := fun _ H' => Q .non H', rt := Q } (start ["self", "room", "number"] vs) H := by
  obtain ⟨L, s, room, num, rfl, h, ok, hl, q⟩ := h
  obtain ⟨dx, ho⟩ := h.ob
  refine ⟨_, rfl, L.d, dx, _, rfl, ho, rfl, L, s, rfl, h, hl, ?_⟩
  have len := h.lots.len
  have hne : L.lots ≠ [] := fun e => ok.ne (h.lots.nil_iff.mp e)
  have hpos : 0 < L.lots.length := List.length_pos_iff.mpr hne
  obtain ⟨a, ha⟩ : ∃ a, L.lots[L.lots.length - 1]? = some a := ⟨L.lots[L.lots.length - 1], List.getElem?_eq_getElem (by omega)⟩
  obtain ⟨lot, hlot, ts, e, tt⟩ := h.lots.get ha
  have hlast : s.lots.getLast? = some lot := by
    rw [List.getLast?_eq_getElem?, ← len]
    exact hlot
  refine ⟨_, rfl, _, _, _, _, _, rfl, ho, pf.cl_Disk, pf.na_Disk_open_lots, rfl, _, rfl, L.lo, _, -1, .ref a, rfl, rfl, SqL.of h.lo, ?_, ?_⟩
  · refine atI_last ?_
    rw [List.getLast?_map, List.getLast?_eq_getElem?, ha]
    rfl
  refine ⟨.inl ⟨rfl, _, SqL.of e⟩, _, rfl, _, rfl, of_decide_eq_true rfl, fun p hp => ?_⟩
  have s1 := same_upd (o := .tup [.int room, .int num]) hp
  have lz : ts.length ≤ 1000000 := by
    rw [tt.len]
    refine Nat.le_trans ?_ ok.few
    obtain ⟨l1, l2, e⟩ := List.append_of_mem (List.mem_of_getElem? hlot)
    rw [e, List.flatten_append, List.length_append, List.flatten_cons, List.length_append]
    omega
  refine ⟨a, _, .ref p, rfl, rfl, s1 _ _ e, sz_lt (by rw [List.length_map]; omega), ?_⟩
  have k : Step L.foot L.foot H (upd (upd H p (.tup [.int room, .int num])) a (.lst (ts.map V.ref ++ [.ref p]))) := ((Step.refl L.foot H).seq s1).upd (.inr ⟨by
    unfold DL.foot
    simp [List.mem_of_getElem? ha], fun xs => nt_lst (s1 _ _ e)⟩)
  have kd : ∀ c o, H c = some o → c ≠ a → (upd (upd H p (.tup [.int room, .int num])) a (.lst (ts.map V.ref ++ [.ref p]))) c = some o := fun c o e n => by
    rw [upd_ne n]
    exact s1 _ _ e
  have nd := h.nd
  simp only [List.nodup_cons, List.mem_cons, not_or] at nd
  have ham := List.mem_of_getElem? ha
  refine q L _ ⟨⟨dx, kd _ _ ho (fun z => nd.1.2.2 (z ▸ ham))⟩, kd _ _ h.ls (fun z => nd.2.1.2 (z ▸ ham)), kd _ _ h.lo (fun z => nd.2.2.1 (z ▸ ham)), ?_, h.nd⟩ rfl k
  show All2 _ _ (addLast s.lots (room, num))
  unfold addLast
  rw [hlast, ← len]
  refine h.lots.upd_at nd.2.2.2 ha ⟨ts ++ [p], by rw [upd_same, List.map_append]; rfl, (tt.imp fun t q _ _ e2 => kd _ _ e2 (ne_lst_tup e e2)).append (.one ?_)⟩ ?_
  · show upd _ a _ p = _
    rw [upd_ne (ne_of_none e hp).symm, upd_same]
  · rintro x y hx n ⟨us, e2, t2⟩
    exact ⟨us, kd _ _ e2 n, t2.imp fun t q _ _ e3 => kd _ _ e3 (ne_lst_tup e e3)⟩
def sp_Disk_ask_barrier (K : PySem.W.Frag) : Sp := fun vs H Q _ => ∃ L s, vs = [.ref L.d] ∧ DiskAt K H L s ∧ s.Ok ∧ s.left = none ∧ ∀ L' H', DiskAt K H' L' s.barrier → L'.d = L.d → Step L.foot L'.foot H H' → Q .non H'
def t_Disk_ask_barrier (K : PySem.W.Frag) : TS := (tSeq (tDrop (tMeth (He.ga K "Disk") "turn" (sp_Disk_turn K) [] E0 (tVar 0) tNil))
    (tDrop (tBM K "list" rAppend (tFld K (tVar 0) "open_lots") (tCons (tLst tNil) tNil))))
theorem len_Disk_ask_barrier {K : PySem.W.Frag} (vs : List V) (H : Hp) (Q : VK) (E : XK) (h : sp_Disk_ask_barrier K vs H Q E) : vs.length = ["self"].length := by
  unfold sp_Disk_ask_barrier at h
  repeat (first | (obtain ⟨e, _⟩ := h; rw [e]; done) | (obtain ⟨e, _⟩ := h; rw [e]; rfl; done) | obtain ⟨_, h⟩ := h)
theorem pure_Disk_ask_barrier {K : PySem.W.Frag} (pf : PF K) {vs : List V} {H : Hp} {Q : VK} {E : XK} (h : sp_Disk_ask_barrier K vs H Q E) : t_Disk_ask_barrier K { nx := fun _ H' => Q .non H', rt := Q } (start ["self"] vs) H := by
  obtain ⟨L, s, rfl, h, ok, hl, q⟩ := h
  obtain ⟨dx, ho⟩ := h.ob
  refine ⟨_, rfl, L.d, dx, _, rfl, ho, rfl, L, s, rfl, h, hl, ?_⟩
  have len := h.lots.len
  have lz := ok.lots
  refine ⟨_, rfl, _, _, _, _, _, rfl, ho, pf.cl_Disk, pf.na_Disk_open_lots, rfl, .inl ⟨rfl, _, SqL.of h.lo⟩, of_decide_eq_true rfl, fun p hp => ?_⟩
  have s1 := same_upd (o := .lst []) hp
  refine ⟨L.lo, _, .ref p, rfl, rfl, s1 _ _ h.lo, sz_lt (by rw [List.length_map]; omega), ?_⟩
  have npo : p ≠ L.lo := (ne_of_none h.lo hp).symm
  have nd := h.nd
  have k : Step L.foot ({ L with lots := L.lots ++ [p] } : DL).foot H (upd (upd H p (.lst [])) L.lo (.lst (L.lots.map V.ref ++ [.ref p]))) := by
    refine (((Step.refl L.foot H).seq s1).upd (.inr ⟨by unfold DL.foot; simp, fun xs => nt_lst (s1 _ _ h.lo)⟩)).sub fun b hb => ?_
    unfold DL.foot at hb ⊢
    simp only [List.mem_cons, List.mem_append, List.not_mem_nil, or_false] at hb ⊢
    rcases hb with hb | hb | hb | hb | hb
    · exact .inl (.inl hb)
    · exact .inl (.inr (.inl hb))
    · exact .inl (.inr (.inr (.inl hb)))
    · exact .inl (.inr (.inr (.inr hb)))
    · exact .inr (hb ▸ hp)
  have kd : ∀ c o, H c = some o → c ≠ L.lo → (upd (upd H p (.lst [])) L.lo (.lst (L.lots.map V.ref ++ [.ref p]))) c = some o := fun c o e n => by
    rw [upd_ne n]
    exact s1 _ _ e
  simp only [List.nodup_cons, List.mem_cons, not_or] at nd
  refine q { L with lots := L.lots ++ [p] } _ ⟨⟨dx, kd _ _ ho (fun z => nd.1.2.1 z)⟩, kd _ _ h.ls (fun z => nd.2.1.1 z), by rw [upd_same, List.map_append]; rfl, ?_, ?_⟩ rfl k
  · show All2 _ _ (s.lots ++ [[]])
    refine All2.append (h.lots.imp ?_) (.one ⟨[], by rw [upd_ne npo, upd_same]; rfl, .nil⟩)
    rintro x y hx _ ⟨us, e2, t2⟩
    exact ⟨us, kd _ _ e2 (fun z => nd.2.2.1 (z ▸ hx)), t2.imp fun t q _ _ e3 => kd _ _ e3 (ne_lst_tup h.lo e3)⟩
  · have hpf : ∀ b, b ∈ L.foot → b ≠ p := fun b hb z => h.has hb (z ▸ hp)
    have nd0 : ((L.d :: L.ls :: L.lo :: L.lots) ++ [p]).Nodup := by
      rw [List.nodup_append]
      refine ⟨h.nd, by simp, fun b hb c hc => ?_⟩
      rw [List.mem_singleton] at hc
      exact hc ▸ hpf b hb
    exact nd0
def sp_Disk_ask_flush (K : PySem.W.Frag) : Sp := fun vs H Q _ => ∃ L s, vs = [.ref L.d] ∧ DiskAt K H L s ∧ s.Ok ∧ s.left = none ∧ ∀ L' H', DiskAt K H' L' s.flush → L'.d = L.d → Step L.foot L'.foot H H' → Q .non H'
def t_Disk_ask_flush (K : PySem.W.Frag) : TS := (tSeq (tDrop (tMeth (He.ga K "Disk") "turn" (sp_Disk_turn K) [] E0 (tVar 0) tNil))
    (tSeq (sFld K (tVar 0) (tMeth (He.ga K "Disk") "shown" (sp_Disk_shown K) [] E0 (tVar 0) tNil) "sure")
    (sFld K (tVar 0) (tLst (tCons (tLst tNil) tNil)) "open_lots")))
theorem len_Disk_ask_flush {K : PySem.W.Frag} (vs : List V) (H : Hp) (Q : VK) (E : XK) (h : sp_Disk_ask_flush K vs H Q E) : vs.length = ["self"].length := by
  unfold sp_Disk_ask_flush at h
  repeat (first | (obtain ⟨e, _⟩ := h; rw [e]; done) | (obtain ⟨e, _⟩ := h; rw [e]; rfl; done) | obtain ⟨_, h⟩ := h)
theorem pure_Disk_ask_flush {K : PySem.W.Frag} (pf : PF K) {vs : List V} {H : Hp} {Q : VK} {E : XK} (h : sp_Disk_ask_flush K vs H Q E) : t_Disk_ask_flush K { nx := fun _ H' => Q .non H', rt := Q } (start ["self"] vs) H := by
  obtain ⟨L, s, rfl, h, ok, hl, q⟩ := h
  obtain ⟨dx, ho⟩ := h.ob
  refine ⟨_, rfl, L.d, dx, _, rfl, ho, rfl, L, s, rfl, h, hl, ?_⟩
  refine ⟨_, rfl, L.d, dx, _, rfl, ho, rfl, L, s, rfl, h, ok, fun p H1 hp s1 e1 => ?_⟩
  refine ⟨_, rfl, L.d, _, dx, _, rfl, s1 _ _ ho, pf.cl_Disk, pf.na_Disk_sure, of_decide_eq_true rfl, ?_⟩
  have npd : p ≠ L.d := (ne_of_none ho hp).symm
  refine ⟨of_decide_eq_true rfl, fun a ha => ⟨of_decide_eq_true rfl, fun o hx => ?_⟩⟩
  have nad : a ≠ L.d := fun z => by
    rw [z, upd_same] at ha
    cases ha
  rw [upd_ne nad] at ha
  have nod : o ≠ L.d := fun z => by
    rw [z, upd_ne nad.symm, upd_same] at hx
    cases hx
  have noa : o ≠ a := fun z => by
    rw [z, upd_same] at hx
    cases hx
  rw [upd_ne noa, upd_ne nod] at hx
  have nap : a ≠ p := (ne_of_none e1 ha).symm
  have nop : o ≠ p := (ne_of_none e1 hx).symm
  refine ⟨_, rfl, L.d, _, dx, _, rfl, (upd_ne nod.symm).trans ((upd_ne nad.symm).trans upd_same), pf.cl_Disk, pf.na_Disk_open_lots, of_decide_eq_true rfl, ?_⟩
  refine q ⟨L.d, p, o, [a]⟩ _ ⟨⟨dx, upd_same⟩, ?_, ?_, .one ⟨[], ?_, .nil⟩, ?_⟩ rfl ?_
  · show upd _ L.d _ p = _
    rw [upd_ne npd, upd_ne nop.symm, upd_ne nap.symm, upd_ne npd]
    exact e1
  · show upd _ L.d _ o = _
    rw [upd_ne nod, upd_same]
    rfl
  · show upd _ L.d _ a = _
    rw [upd_ne nad, upd_ne noa.symm, upd_same]
    rfl
  · simp [npd.symm, nod.symm, nad.symm, nop.symm, nap.symm, noa]
  · have hd : L.d ∈ L.foot := by
      unfold DL.foot
      simp
    have k1 := ((Step.refl L.foot H).seq s1).upd (a := L.d) (o := .ins (He.ga K "Disk") dx (putF "sure" (.ref p) (diskF (.ref L.ls) (.ref L.lo) (leftV s.left)))) (.inr ⟨hd, fun xs => nt_ins (s1 _ _ ho)⟩)
    have k2 := k1.seq (same_upd (p := a) (o := .lst []) (by rw [upd_ne nad]; exact ha))
    have k3 := k2.seq (same_upd (p := o) (o := .lst [.ref a]) (by rw [upd_ne noa, upd_ne nod]; exact hx))
    have k4 := k3.upd (a := L.d) (o := .ins (He.ga K "Disk") dx (putF "open_lots" (.ref o) (putF "sure" (.ref p) (diskF (.ref L.ls) (.ref L.lo) (leftV s.left))))) (.inr ⟨hd, fun xs => by rw [upd_ne nod.symm, upd_ne nad.symm, upd_same]; intro z; cases z⟩)
    refine k4.sub fun b hb => ?_
    unfold DL.foot at hb
    simp only [List.mem_cons, List.not_mem_nil, or_false] at hb
    rcases hb with rfl | rfl | rfl | rfl
    · exact .inl hd
    · exact .inr hp
    · exact .inr (s1.free hx)
    · exact .inr (s1.free ha)
end SY

/-! ## Prog, part E: requests, queues -/
namespace SY
open PySem PySem.Spec PyProof.Rows L2 XB
def Que.new (pat : Int) : Que := ⟨pat, [], 0, 0⟩
def Que.put1 (q : Que) (w : Option (Int × Int)) : Que := { q with row := q.row ++ [⟨q.put, w, 0⟩], put := q.put + 1 }
def Que.mine (q : Que) (room : Int) : List Rq := q.row.filter fun r => decide (roomV r.w = .int room)
def Que.fr (q : Que) : Nat := (q.row.takeWhile fun r => r.w.isSome).length
def Que.key (q : Que) (i : Nat) : KT := match q.row[i]? with
  | some ⟨c, some (r, _), _⟩ => (decide (r < q.arm), r, c)
  | _ => (false, 0, 0)
def Que.pick (q : Que) : Nat := match q.row with
  | [] => 0
  | first :: _ => if decide (q.pat ≤ first.seen) = true then 0 else if q.fr = 0 then 0 else argBest (fun i j => kLt (q.key i) (q.key j)) (q.fr - 1)
def Que.served (q : Que) (r : Rq) : Que := { q with row := (q.row.filter fun o => !decide (o.cnt = r.cnt)).map (fun o => { o with seen := o.seen + 1 }), arm := match r.w with | none => q.arm | some p => p.1 }
section
variable {K : PySem.W.Frag} {H H' : Hp} {A A' : List Addr}
theorem ReqAt.same {a : Addr} {r : Rq} (h : ReqAt K H a r) (s : Same H H') : ReqAt K H' a r := h.imp fun dx e => s _ _ e
end
def sp_Request_init (K : PySem.W.Frag) : Sp := fun vs H Q _ => ∃ x dx c w, vs = [.ref x, .int c, roomV w, numV w] ∧ H x = some (.ins (He.ga K "Request") dx []) ∧ ∀ H', ReqAt K H' x ⟨c, w, 0⟩ → Step [x] [x] H H' → Q .non H'
def t_Request_init (K : PySem.W.Frag) : TS := (tSeq (sFld K (tVar 0) (tVar 1) "count")
    (tSeq (sFld K (tVar 0) (tVar 2) "spot")
    (tSeq (sFld K (tVar 0) (tVar 3) "number")
    (sFld K (tVar 0) (tC (.int 0)) "seen"))))
theorem len_Request_init {K : PySem.W.Frag} (vs : List V) (H : Hp) (Q : VK) (E : XK) (h : sp_Request_init K vs H Q E) : vs.length = ["self", "count", "room", "number"].length := by
  unfold sp_Request_init at h
  repeat (first | (obtain ⟨e, _⟩ := h; rw [e]; done) | (obtain ⟨e, _⟩ := h; rw [e]; rfl; done) | obtain ⟨_, h⟩ := h)
theorem pure_Request_init {K : PySem.W.Frag} (pf : PF K) {vs : List V} {H : Hp} {Q : VK} {E : XK} (h : sp_Request_init K vs H Q E) : t_Request_init K { nx := fun _ H' => Q .non H', rt := Q } (start ["self", "count", "room", "number"] vs) H := by
  obtain ⟨x, dx, c, w, rfl, hx, q⟩ := h
  refine ⟨_, rfl, _, rfl, x, _, dx, [], rfl, hx, pf.cl_Request, pf.na_Request_count, of_decide_eq_true rfl, ?_⟩
  refine ⟨_, rfl, _, rfl, x, _, dx, _, rfl, upd_same, pf.cl_Request, pf.na_Request_spot, of_decide_eq_true rfl, ?_⟩
  refine ⟨_, rfl, _, rfl, x, _, dx, _, rfl, upd_same, pf.cl_Request, pf.na_Request_number, of_decide_eq_true rfl, ?_⟩
  refine ⟨_, rfl, x, _, dx, _, rfl, upd_same, pf.cl_Request, pf.na_Request_seen, of_decide_eq_true rfl, ?_⟩
  refine q _ ⟨dx, upd_same⟩ ?_
  simp only [upd_upd]
  exact (Step.refl [x] H).upd (.inr ⟨by simp, fun xs => nt_ins hx⟩)
def sp_Request_is_write (K : PySem.W.Frag) : Sp := fun vs H Q _ => ∃ a r, vs = [.ref a] ∧ ReqAt K H a r ∧ Q (.bl r.w.isSome) H
def t_Request_is_write (K : PySem.W.Frag) : TS := (tRet (tOp xNotN (tFld K (tVar 0) "spot") (tC .non)))
theorem len_Request_is_write {K : PySem.W.Frag} (vs : List V) (H : Hp) (Q : VK) (E : XK) (h : sp_Request_is_write K vs H Q E) : vs.length = ["self"].length := by
  unfold sp_Request_is_write at h
  repeat (first | (obtain ⟨e, _⟩ := h; rw [e]; done) | (obtain ⟨e, _⟩ := h; rw [e]; rfl; done) | obtain ⟨_, h⟩ := h)
theorem pure_Request_is_write {K : PySem.W.Frag} (pf : PF K) {vs : List V} {H : Hp} {Q : VK} {E : XK} (h : sp_Request_is_write K vs H Q E) : t_Request_is_write K { nx := fun _ H' => Q .non H', rt := Q } (start ["self"] vs) H := by
  obtain ⟨a, r, rfl, ⟨dx, ho⟩, q⟩ := h
  refine ⟨_, rfl, _, _, _, _, _, rfl, ho, pf.cl_Request, pf.na_Request_spot, rfl, rfl, ?_⟩
  have : (!decide (roomV r.w = .non)) = r.w.isSome := by
    cases r.w with
    | none => rfl
    | some p => rfl
  rw [this]
  exact q
def sp_Queue_init (K : PySem.W.Frag) : Sp := fun vs H Q _ => ∃ x dx pat, vs = [.ref x, .int pat] ∧ H x = some (.ins (He.ga K "Queue") dx []) ∧ ∀ L H', QueAt K H' L (Que.new pat) → L.q = x → Step [x] L.foot H H' → Q .non H'
def t_Queue_init (K : PySem.W.Frag) : TS := (tSeq (sFld K (tVar 0) (tVar 1) "patience")
    (tSeq (sFld K (tVar 0) (tLst tNil) "row")
    (tSeq (sFld K (tVar 0) (tC (.int 0)) "put_so_far")
    (sFld K (tVar 0) (tC (.int 0)) "spot"))))
theorem len_Queue_init {K : PySem.W.Frag} (vs : List V) (H : Hp) (Q : VK) (E : XK) (h : sp_Queue_init K vs H Q E) : vs.length = ["self", "patience"].length := by
  unfold sp_Queue_init at h
  repeat (first | (obtain ⟨e, _⟩ := h; rw [e]; done) | (obtain ⟨e, _⟩ := h; rw [e]; rfl; done) | obtain ⟨_, h⟩ := h)
theorem pure_Queue_init {K : PySem.W.Frag} (pf : PF K) {vs : List V} {H : Hp} {Q : VK} {E : XK} (h : sp_Queue_init K vs H Q E) : t_Queue_init K { nx := fun _ H' => Q .non H', rt := Q } (start ["self", "patience"] vs) H := by
  obtain ⟨x, dx, pat, rfl, hx, q⟩ := h
  refine ⟨_, rfl, _, rfl, x, _, dx, [], rfl, hx, pf.cl_Queue, pf.na_Queue_patience, of_decide_eq_true rfl, ?_⟩
  refine ⟨of_decide_eq_true rfl, fun p hp => ⟨_, rfl, x, _, dx, _, rfl, (upd_ne (ne_of_none upd_same hp)).trans upd_same, pf.cl_Queue, pf.na_Queue_row, of_decide_eq_true rfl, ?_⟩⟩
  have npx : p ≠ x := (ne_of_none upd_same hp).symm
  refine ⟨_, rfl, x, _, dx, _, rfl, upd_same, pf.cl_Queue, pf.na_Queue_put_so_far, of_decide_eq_true rfl, ?_⟩
  refine ⟨_, rfl, x, _, dx, _, rfl, upd_same, pf.cl_Queue, pf.na_Queue_spot, of_decide_eq_true rfl, ?_⟩
  refine q ⟨x, p, []⟩ _ ⟨⟨dx, upd_same⟩, ?_, .nil, by simp [npx.symm]⟩ rfl ?_
  · show upd _ x _ p = _
    rw [upd_ne npx, upd_ne npx, upd_ne npx, upd_same]
    rfl
  · simp only [upd_upd]
    have k1 := (Step.refl [x] H).upd (a := x) (o := .ins (He.ga K "Queue") dx (putF "patience" (.int pat) [])) (.inr ⟨by simp, fun xs => nt_ins hx⟩)
    have k2 := k1.seq (same_upd (o := .lst []) hp)
    rw [upd_ne npx] at hp
    refine (k2.upd (.inr ⟨by simp, fun xs => by rw [upd_ne npx.symm, upd_same]; intro z; cases z⟩)).sub fun b hb => ?_
    unfold QL.foot at hb
    simp only [List.mem_cons, List.not_mem_nil, or_false] at hb
    rcases hb with rfl | rfl
    · exact .inl (by simp)
    · exact .inr hp
def sp_Queue_put (K : PySem.W.Frag) : Sp := fun vs H Q _ => ∃ L s w, vs = [.ref L.q, roomV w, numV w] ∧ QueAt K H L s ∧ s.row.length ≤ 1000000 ∧ ∀ L' H', QueAt K H' L' (s.put1 w) → L'.q = L.q → Step L.foot L'.foot H H' → Q .non H'
def t_Queue_put (K : PySem.W.Frag) : TS := (tSeq (tDrop (tBM K "list" rAppend (tFld K (tVar 0) "row") (tCons (tMake (He.ga K "Request") (sp_Request_init K) [] E0 (tCons (tFld K (tVar 0) "put_so_far") (tCons (tVar 1) (tCons (tVar 2) tNil)))) tNil)))
    (sFldAug K (tVar 0) (tC (.int 1)) rAdd "put_so_far"))
theorem len_Queue_put {K : PySem.W.Frag} (vs : List V) (H : Hp) (Q : VK) (E : XK) (h : sp_Queue_put K vs H Q E) : vs.length = ["self", "room", "number"].length := by
  unfold sp_Queue_put at h
  repeat (first | (obtain ⟨e, _⟩ := h; rw [e]; done) | (obtain ⟨e, _⟩ := h; rw [e]; rfl; done) | obtain ⟨_, h⟩ := h)
theorem pure_Queue_put {K : PySem.W.Frag} (pf : PF K) {vs : List V} {H : Hp} {Q : VK} {E : XK} (h : sp_Queue_put K vs H Q E) : t_Queue_put K { nx := fun _ H' => Q .non H', rt := Q } (start ["self", "room", "number"] vs) H := by
  obtain ⟨L, s, w, rfl, h, hz, q⟩ := h
  obtain ⟨dx, ho⟩ := h.ob
  have len := h.rs.len
  refine ⟨_, rfl, _, _, _, _, _, rfl, ho, pf.cl_Queue, pf.na_Queue_row, rfl, .inl ⟨rfl, _, SqL.of h.lr⟩, ?_⟩
  refine ⟨_, rfl, _, _, _, _, _, rfl, ho, pf.cl_Queue, pf.na_Queue_put_so_far, rfl, _, rfl, _, rfl, fun x dy hx hd hxd => ?_⟩
  have k0 := Step.made (C := He.ga K "Request") hx hd
  refine ⟨x, dy, s.put, w, rfl, upd_same, fun H1 r1 k1 => ⟨rfl, ?_⟩⟩
  have k2 : Step L.foot (x :: L.foot) H H1 := (k0.trans k1).frame (fun b z => by simp at z) fun b hb => by
    rw [List.mem_cons] at hb
    exact hb.imp (fun z => by simp [z]) id
  have kk : ∀ c o, H c = some o → H1 c = some o := fun c o e => (k0.trans k1).kp c o e (by simp)
  have hr := kk _ _ h.lr
  refine ⟨L.lr, _, .ref x, rfl, rfl, hr, sz_lt (by rw [List.length_map]; omega), ?_⟩
  have nq : L.q ≠ L.lr := ne_lst_ins hr (kk _ _ ho)
  refine ⟨_, rfl, L.q, _, dx, _, _, rfl, (upd_ne nq).trans (kk _ _ ho), pf.cl_Queue, pf.na_Queue_put_so_far, rfl, ?_⟩
  refine ⟨_, _, rfl, rfl, dx, _, (upd_ne nq).trans (kk _ _ ho), of_decide_eq_true rfl, ?_⟩
  have k3 : Step L.foot (x :: L.foot) H _ := (k2.upd (a := L.lr) (o := .lst (L.rs.map V.ref ++ [.ref x])) (.inr ⟨by unfold QL.foot; simp, fun xs => nt_lst hr⟩)).upd (a := L.q) (o := .ins (He.ga K "Queue") dx (putF "put_so_far" (.int (s.put + 1)) (queF (.int s.pat) (.ref L.lr) (.int s.put) (.int s.arm)))) (.inr ⟨by unfold QL.foot; simp, fun xs => by rw [upd_ne nq]; exact nt_ins (kk _ _ ho)⟩)
  have kd : ∀ c o, H1 c = some o → c ≠ L.lr → c ≠ L.q → (upd (upd H1 L.lr (.lst (L.rs.map V.ref ++ [.ref x]))) L.q (.ins (He.ga K "Queue") dx (putF "put_so_far" (.int (s.put + 1)) (queF (.int s.pat) (.ref L.lr) (.int s.put) (.int s.arm))))) c = some o := fun c o e n m => by
    rw [upd_ne m, upd_ne n]
    exact e
  have nd := h.nd
  simp only [List.nodup_cons, List.mem_cons, not_or] at nd
  have nx : ∀ b, b ∈ L.foot → b ≠ x := fun b hb z => h.has hb (z ▸ hx)
  have xr : x ≠ L.lr := (nx _ (by unfold QL.foot; simp)).symm
  have xq : x ≠ L.q := (nx _ (by unfold QL.foot; simp)).symm
  refine q { L with rs := L.rs ++ [x] } _ ⟨⟨dx, upd_same⟩, ?_, ?_, ?_⟩ rfl (k3.sub fun b hb => ?_)
  · show upd _ L.q _ L.lr = _
    rw [upd_ne nq.symm, upd_same, List.map_append]
    rfl
  · show All2 _ _ (s.row ++ _)
    refine All2.append (h.rs.imp ?_) (.one ?_)
    · rintro a r ha _ ⟨dz, e⟩
      exact ⟨dz, kd _ _ (kk _ _ e) (fun z => nd.2.1 (z ▸ ha)) (fun z => nd.1.2 (z ▸ ha))⟩
    · exact r1.imp fun dz e => kd _ _ e xr xq
  · have nd0 : ((L.q :: L.lr :: L.rs) ++ [x]).Nodup := by
      rw [List.nodup_append]
      refine ⟨h.nd, by simp, fun b hb c hc => ?_⟩
      rw [List.mem_singleton] at hc
      exact hc ▸ nx b hb
    exact nd0
  · unfold QL.foot at hb ⊢
    simp only [List.mem_cons, List.mem_append, List.not_mem_nil, or_false] at hb ⊢
    rcases hb with hb | hb | hb | hb
    · exact .inl (.inr (.inl hb))
    · exact .inl (.inr (.inr (.inl hb)))
    · exact .inl (.inr (.inr (.inr hb)))
    · exact .inl (.inl hb)
theorem reqAt_inj {K : PySem.W.Frag} {H : Hp} {a : Addr} {r r' : Rq} (h : ReqAt K H a r) (h' : ReqAt K H a r') : r = r' := by
  obtain ⟨dx, e⟩ := h
  obtain ⟨dy, e'⟩ := h'
  rw [e] at e'
  obtain ⟨c, w, s⟩ := r
  obtain ⟨c', w', s'⟩ := r'
  have e2 := Option.some.inj e'
  injection e2 with _ _ e3
  unfold reqF at e3
  simp only [List.cons.injEq, Prod.mk.injEq, V.int.injEq, true_and, and_true] at e3
  obtain ⟨rfl, h1, h2, rfl⟩ := e3
  congr 1
  cases w with
  | none =>
    cases w' with
    | none => rfl
    | some p => cases h1
  | some p =>
    cases w' with
    | none => cases h1
    | some q =>
      obtain ⟨p1, p2⟩ := p
      obtain ⟨q1, q2⟩ := q
      cases h1
      cases h2
      rfl
def sp_Queue_newest (K : PySem.W.Frag) : Sp := fun vs H Q _ => ∃ L s room, vs = [.ref L.q, .int room] ∧ QueAt K H L s ∧ s.row.length ≤ 1000000 ∧ ((s.mine room).getLast? = none → ∀ H', Same H H' → Q .non H') ∧ (∀ r a, (s.mine room).getLast? = some r → ReqAt K H a r → ∀ H', Same H H' → Q (.ref a) H')
def t_Queue_newest (K : PySem.W.Frag) : TS := (tSeq (tAsg (tLc (iList K (tFld K (tVar 0) "row")) (gName 3) (tTest (tOp rEq (tFld K (tVar 3) "spot") (tVar 1))) (tVar 3) [3]) (gName 2))
    (tRet (tIf (tTest (tOp (rNeE K) (tVar 2) (tLst tNil))) (tOp (rIxL K) (tVar 2) (tUn xNeg (tC (.int 1)))) (tC .non))))
theorem len_Queue_newest {K : PySem.W.Frag} (vs : List V) (H : Hp) (Q : VK) (E : XK) (h : sp_Queue_newest K vs H Q E) : vs.length = ["self", "room"].length := by
  unfold sp_Queue_newest at h
  repeat (first | (obtain ⟨e, _⟩ := h; rw [e]; done) | (obtain ⟨e, _⟩ := h; rw [e]; rfl; done) | obtain ⟨_, h⟩ := h)
theorem pure_Queue_newest {K : PySem.W.Frag} (pf : PF K) {vs : List V} {H : Hp} {Q : VK} {E : XK} (h : sp_Queue_newest K vs H Q E) : t_Queue_newest K { nx := fun _ H' => Q .non H', rt := Q } (start ["self", "room", "found", "request"] vs) H := by
  obtain ⟨L, s, room, rfl, h, hz, q0, q1⟩ := h
  obtain ⟨dx, ho⟩ := h.ob
  have len := h.rs.len
  refine ⟨_, rfl, _, _, _, _, _, rfl, ho, pf.cl_Queue, pf.na_Queue_row, rfl, _, rfl, ⟨_, SqL.of h.lr⟩, ?_⟩
  refine comp_keep (fun r : Rq => decide (roomV r.w = .int room)) h.rs (SqL.of h.lr) (by omega) ?_ ?_ ?_
  · exact of_decide_eq_true rfl
  · rintro a y ha ⟨dy, e⟩ H1 s1 R r
    have e1 := s1 _ _ e
    refine ⟨_, rfl, _, _, _, _, _, rfl, e1, pf.cl_Request, pf.na_Request_spot, rfl, _, rfl, ?_, _, rfl, r H1 (Same.refl H1)⟩
    cases y.w <;> rfl
  · intro p H1 hp s1 hv
    have kA := keep2_all (fun r : Rq => decide (roomV r.w = .int room)) h.rs
    refine ⟨_, rfl, of_decide_eq_true rfl, fun c hc => ⟨p, c, _, rfl, rfl, SqL.of (same_upd hc _ _ hv), SqL.of upd_same, _, rfl, ?_⟩⟩
    have s2 := s1.trans (same_upd (o := .lst []) hc)
    cases hl : (s.mine room).getLast? with
    | none =>
      have : s.mine room = [] := List.getLast?_eq_none_iff.mp hl
      have e0 : keep2 (fun r : Rq => decide (roomV r.w = .int room)) L.rs s.row = [] := kA.nil_iff.mpr this
      rw [e0]
      exact iteF (q0 hl _ s2)
    | some r =>
      have hl2 := hl
      rw [List.getLast?_eq_getElem?] at hl2
      obtain ⟨a, ha, ra⟩ := kA.get2 hl2
      have hne : (keep2 (fun r : Rq => decide (roomV r.w = .int room)) L.rs s.row) ≠ [] := fun z => by
        rw [z] at ha
        simp at ha
      refine iteY ?_ ⟨_, rfl, _, rfl, p, _, -1, .ref a, rfl, rfl, SqL.of (same_upd hc _ _ hv), ?_, q1 r a hl ra _ s2⟩
      · cases e : keep2 (fun r : Rq => decide (roomV r.w = .int room)) L.rs s.row with
        | nil => exact absurd e hne
        | cons x y => rfl
      · refine atI_last ?_
        rw [List.getLast?_map, List.getLast?_eq_getElem?, kA.len]
        have : (s.mine room) = s.row.filter fun r => decide (roomV r.w = .int room) := rfl
        rw [← this, ha]
        rfl
theorem fr_le (q : Que) : q.fr ≤ q.row.length := (List.takeWhile_sublist _).length_le
theorem takeWhile_at {α : Type} {p : α → Bool} : ∀ {xs : List α} {n : Nat} {x : α}, xs[n]? = some x → p x = false → (∀ y ∈ xs.take n, p y = true) → (xs.takeWhile p).length = n
  | [], n, x, h, _, _ => by simp at h
  | y :: ys, 0, x, h, hp, _ => by
    rw [List.getElem?_cons_zero] at h
    cases h
    simp [List.takeWhile_cons, hp]
  | y :: ys, n + 1, x, h, hp, ha => by
    rw [List.getElem?_cons_succ] at h
    have hy := ha y (by simp)
    rw [List.takeWhile_cons, if_pos hy, List.length_cons, takeWhile_at h hp fun z hz => ha z (by simp [hz])]
theorem takeWhile_all {α : Type} {p : α → Bool} : ∀ {xs : List α}, (∀ y ∈ xs, p y = true) → (xs.takeWhile p).length = xs.length
  | [], _ => rfl
  | y :: ys, h => by
    rw [List.takeWhile_cons, if_pos (h y (by simp)), List.length_cons, takeWhile_all fun z hz => h z (by simp [hz]), List.length_cons]
theorem fr_write {q : Que} {i : Nat} (hi : i < q.fr) : ∃ c p s, q.row[i]? = some ⟨c, some p, s⟩ := by
  have : ∀ {xs : List Rq} {i : Nat}, i < (xs.takeWhile fun r => r.w.isSome).length → ∃ c p s, xs[i]? = some ⟨c, some p, s⟩ := by
    intro xs
    induction xs with
    | nil => intro i h; simp at h
    | cons x xs ih =>
      intro i h
      rw [List.takeWhile_cons] at h
      split at h
      · rename_i hx
        cases i with
        | zero =>
          obtain ⟨c, w, s⟩ := x
          cases w with
          | none => simp at hx
          | some p => exact ⟨c, p, s, rfl⟩
        | succ i => exact ih (by simpa using h)
      · simp at h
  exact this hi
def sp_Queue_free (K : PySem.W.Frag) : Sp := fun vs H Q _ => ∃ L s, vs = [.ref L.q] ∧ QueAt K H L s ∧ s.row.length ≤ 1000000 ∧ ∀ p H', H p = none → Same H H' → H' p = some (.lst ((L.rs.take s.fr).map V.ref)) → Q (.ref p) H'
def t_Queue_free (K : PySem.W.Frag) : TS := (tSeq (tAsg (tLst tNil) (gName 1))
    (tSeq (tFor (iList K (tFld K (tVar 0) "row")) (gName 2) (tSeq (tIfS (tNot (tB (tMeth (He.ga K "Request") "is_write" (sp_Request_is_write K) [] E0 (tVar 2) tNil))) (tRet (tVar 1)) tNext)
    (tDrop (tBM K "list" rAppend (tVar 1) (tCons (tVar 2) tNil)))))
    (tRet (tVar 1))))
theorem len_Queue_free {K : PySem.W.Frag} (vs : List V) (H : Hp) (Q : VK) (E : XK) (h : sp_Queue_free K vs H Q E) : vs.length = ["self"].length := by
  unfold sp_Queue_free at h
  repeat (first | (obtain ⟨e, _⟩ := h; rw [e]; done) | (obtain ⟨e, _⟩ := h; rw [e]; rfl; done) | obtain ⟨_, h⟩ := h)
theorem pure_Queue_free {K : PySem.W.Frag} (pf : PF K) {vs : List V} {H : Hp} {Q : VK} {E : XK} (h : sp_Queue_free K vs H Q E) : t_Queue_free K { nx := fun _ H' => Q .non H', rt := Q } (start ["self", "found", "request"] vs) H := by
  obtain ⟨L, s, rfl, h, hz, q⟩ := h
  obtain ⟨dx, ho⟩ := h.ob
  have len := h.rs.len
  refine ⟨of_decide_eq_true rfl, fun D hD => ?_⟩
  have s1 := same_upd (o := .lst []) hD
  have ho1 := s1 _ _ ho
  refine ⟨_, rfl, _, _, _, _, _, rfl, ho1, pf.cl_Queue, pf.na_Queue_row, rfl, _, rfl, ⟨_, SqL.of (s1 _ _ h.lr)⟩, ?_⟩
  refine for_list (xs := L.rs.map V.ref) (fun n σ H1 => Same H H1 ∧ H1 D = some (.lst ((L.rs.take n).map V.ref)) ∧ (∀ r ∈ s.row.take n, r.w.isSome = true) ∧ ∃ v2, σ = [some (.ref L.q), some (.ref D), v2])
    ⟨s1, by rw [upd_same]; rfl, by simp, _, rfl⟩ (fun n σ H1 _ h1 => SqL.of (h1.1 _ _ h.lr)) ?_ ?_
  · rintro n x σ H1 hx ⟨s2, hv, hw, v2, rfl⟩
    rw [List.getElem?_map] at hx
    obtain ⟨a, ha, rfl⟩ := Option.map_eq_some_iff.mp hx
    obtain ⟨y, hy, r⟩ := h.rs.get ha
    obtain ⟨dy, e⟩ := ReqAt.same r s2
    refine ⟨_, rfl, a, dy, _, rfl, e, rfl, a, y, rfl, ⟨dy, e⟩, _, rfl, ?_⟩
    cases hs : y.w.isSome with
    | false =>
      refine iteT ⟨_, rfl, q D H1 hD s2 ?_⟩
      have : s.fr = n := takeWhile_at hy hs hw
      rw [this]
      exact hv
    | true =>
      refine iteF ?_
      refine ⟨_, rfl, .inl ⟨rfl, _, SqL.of hv⟩, _, rfl, D, _, _, rfl, rfl, hv, sz_lt ?_, upd_new s2 hD, ?_, ?_, _, rfl⟩
      · rw [List.length_map, List.length_take]
        omega
      · rw [upd_same, take_one ha, List.map_append]
        rfl
      · rw [take_one hy]
        intro r hr
        rcases List.mem_append.mp hr with z | z
        · exact hw r z
        · rw [List.mem_singleton] at z
          exact z ▸ hs
  · rintro σ H1 ⟨s2, hv, hw, v2, rfl⟩
    refine ⟨_, rfl, q D H1 hD s2 ?_⟩
    rw [List.length_map, len, List.take_length] at hw
    have : s.fr = s.row.length := takeWhile_all hw
    rw [this, ← len]
    rw [List.length_map] at hv
    exact hv
def sp_Queue_by_arm (K : PySem.W.Frag) : Sp := fun vs H Q _ => ∃ qa a dx pat lr put arm c room num seen, vs = [.ref qa, .ref a] ∧ H qa = some (.ins (He.ga K "Queue") dx (queF pat lr put (.int arm))) ∧ ReqAt K H a ⟨c, some (room, num), seen⟩ ∧ ∀ p, H p = none → Q (.ref p) (upd H p (.tup (kV3 (decide (room < arm), room, c))))
def t_Queue_by_arm (K : PySem.W.Frag) : TS := (tRet (tTup (tCons (tOp xLt (tFld K (tVar 1) "spot") (tFld K (tVar 0) "spot")) (tCons (tFld K (tVar 1) "spot") (tCons (tFld K (tVar 1) "count") tNil)))))
theorem len_Queue_by_arm {K : PySem.W.Frag} (vs : List V) (H : Hp) (Q : VK) (E : XK) (h : sp_Queue_by_arm K vs H Q E) : vs.length = ["self", "request"].length := by
  unfold sp_Queue_by_arm at h
  repeat (first | (obtain ⟨e, _⟩ := h; rw [e]; done) | (obtain ⟨e, _⟩ := h; rw [e]; rfl; done) | obtain ⟨_, h⟩ := h)
theorem pure_Queue_by_arm {K : PySem.W.Frag} (pf : PF K) {vs : List V} {H : Hp} {Q : VK} {E : XK} (h : sp_Queue_by_arm K vs H Q E) : t_Queue_by_arm K { nx := fun _ H' => Q .non H', rt := Q } (start ["self", "request"] vs) H := by
  obtain ⟨qa, a, dx, pat, lr, put, arm, c, room, num, seen, rfl, ho, ⟨dy, e⟩, q⟩ := h
  exact ⟨_, rfl, _, _, _, _, _, rfl, e, pf.cl_Request, pf.na_Request_spot, rfl, _, rfl, _, _, _, _, _, rfl, ho, pf.cl_Queue, pf.na_Queue_spot, rfl, _, _, rfl, rfl, _, rfl, _, _, _, _, _, rfl, e, pf.cl_Request, pf.na_Request_spot, rfl, _, rfl, _, _, _, _, _, rfl, e, pf.cl_Request, pf.na_Request_count, rfl, of_decide_eq_true rfl, q⟩
def sp_Queue_choice (K : PySem.W.Frag) : Sp := fun vs H Q _ => ∃ L s, vs = [.ref L.q] ∧ QueAt K H L s ∧ s.row.length ≤ 1000000 ∧ s.row ≠ [] ∧ ∀ a r H', L.rs[s.pick]? = some a → s.row[s.pick]? = some r → ReqAt K H a r → Same H H' → Q (.ref a) H'
def t_Queue_choice (K : PySem.W.Frag) : TS := (tSeq (tAsg (tFld K (tVar 0) "row") (gStar K (gCons (gName 1) (gCons (gName 2) gNil))))
    (tSeq (tAsg (tMeth (He.ga K "Queue") "free" (sp_Queue_free K) [] E0 (tVar 0) tNil) (gName 3))
    (tSeq (tIfS (tOr (tTest (tOp xGe (tFld K (tVar 1) "seen") (tFld K (tVar 0) "patience"))) (tTest (tOp (rEqE K) (tVar 3) (tLst tNil)))) (tRet (tVar 1)) tNext)
    (tRet (tCKw (rMinKey K (He.fAd K ("Queue", some "by_arm")) (sp_Queue_by_arm K)) (tCons (tVar 3) tNil) (tCons (tBnd (He.ga K "Queue") "by_arm" (He.fAd K ("Queue", some "by_arm")) (tVar 0)) tNil))))))
theorem len_Queue_choice {K : PySem.W.Frag} (vs : List V) (H : Hp) (Q : VK) (E : XK) (h : sp_Queue_choice K vs H Q E) : vs.length = ["self"].length := by
  unfold sp_Queue_choice at h
  repeat (first | (obtain ⟨e, _⟩ := h; rw [e]; done) | (obtain ⟨e, _⟩ := h; rw [e]; rfl; done) | obtain ⟨_, h⟩ := h)
theorem pure_Queue_choice {K : PySem.W.Frag} (pf : PF K) {vs : List V} {H : Hp} {Q : VK} {E : XK} (h : sp_Queue_choice K vs H Q E) : t_Queue_choice K { nx := fun _ H' => Q .non H', rt := Q } (start ["self", "first", "rest", "writes"] vs) H := by
  obtain ⟨L, s, rfl, h, hz, hne, q⟩ := h
  obtain ⟨dx, ho⟩ := h.ob
  have len := h.rs.len
  obtain ⟨x, xs, hL⟩ : ∃ x xs, L.rs = x :: xs := by
    cases e : L.rs with
    | nil => exact absurd (h.rs.nil_iff.mp e) hne
    | cons x xs => exact ⟨x, xs, rfl⟩
  obtain ⟨y, ys, hR⟩ : ∃ y ys, s.row = y :: ys := by
    cases e : s.row with
    | nil => exact absurd e hne
    | cons x xs => exact ⟨x, xs, rfl⟩
  have hx0 : L.rs[0]? = some x := by rw [hL]; rfl
  have hy0 : s.row[0]? = some y := by rw [hR]; rfl
  have rx : ReqAt K H x y := by
    obtain ⟨y', hy', r⟩ := h.rs.get hx0
    rw [hy0] at hy'
    cases hy'
    exact r
  refine ⟨_, rfl, _, _, _, _, _, rfl, ho, pf.cl_Queue, pf.na_Queue_row, rfl, L.lr, .ref x, xs.map V.ref, rfl, SqL.of (by rw [h.lr, hL]; rfl), fun p hp => ⟨_, _, rfl, _, _, rfl, rfl, ?_⟩⟩
  have s1 := same_upd (o := .lst (xs.map V.ref)) hp
  have h1 := h.same s1
  obtain ⟨dx1, ho1⟩ := h1.ob
  refine ⟨_, rfl, L.q, dx1, _, rfl, ho1, rfl, L, s, rfl, h1, hz, fun w H2 hw s2 hv => ?_⟩
  have s3 := s1.trans s2
  obtain ⟨dy, e⟩ := rx
  have e3 := s3 _ _ e
  have ho3 := s3 _ _ ho
  refine ⟨_, rfl, _, _, _, _, _, rfl, e3, pf.cl_Request, pf.na_Request_seen, rfl, _, rfl, _, _, _, _, _, rfl, ho3, pf.cl_Queue, pf.na_Queue_patience, rfl, _, _, rfl, rfl, _, rfl, ?_⟩
  have done : s.pick = 0 → ∀ H', Same H H' → Q (.ref x) H' := fun z H' s' => q x y H' (by rw [z]; exact hx0) (by rw [z]; exact hy0) ⟨dy, e⟩ s'
  cases hc : decide (s.pat ≤ y.seen) with
  | true =>
    refine iteT (iteT ⟨_, rfl, done ?_ H2 s3⟩)
    unfold Que.pick
    rw [hR]
    simp only [hc, if_true]
  | false =>
    refine iteF ⟨_, rfl, of_decide_eq_true rfl, fun c hc2 => ⟨w, c, _, rfl, rfl, SqL.of (same_upd hc2 _ _ hv), SqL.of upd_same, _, rfl, ?_⟩⟩
    have s4 := s3.trans (same_upd (o := .lst []) hc2)
    by_cases hf : s.fr = 0
    · rw [hf]
      refine iteT ⟨_, rfl, done ?_ _ s4⟩
      unfold Que.pick
      rw [hR]
      simp only [hc, Bool.false_eq_true, if_false, hf, if_true]
    · have hpk : s.pick = argBest (fun i j => kLt (s.key i) (s.key j)) (s.fr - 1) := by
        unfold Que.pick
        rw [hR]
        simp only [hc, Bool.false_eq_true, if_false, hf]
      have frl := fr_le s
      have tl : (L.rs.take s.fr).length = s.fr := by
        rw [List.length_take]
        omega
      refine iteN ?_ ?_
      · cases e : (L.rs.take s.fr).map V.ref with
        | nil =>
          have := congrArg List.length e
          rw [List.length_map, tl] at this
          exact absurd this hf
        | cons a b => rfl
      have ho4 := s4 _ _ ho
      refine ⟨_, rfl, ⟨_, rfl, L.q, dx, _, rfl, ho4, rfl, fun m hm => ?_⟩⟩
      have s5 := same_upd (o := .met (He.fAd K ("Queue", some "by_arm")) L.q) hm
      have s6 := s4.trans s5
      refine ⟨w, m, L.q, L.rs.take s.fr, s.key, rfl, rfl, SqL.of (s5 _ _ (same_upd hc2 _ _ hv)), upd_same, by omega, ?_, ?_⟩
      · intro i a ha H7 s7
        have hi : i < s.fr := by
          have := (List.getElem?_eq_some_iff.mp ha).1
          omega
        have ha2 : L.rs[i]? = some a := by
          rw [List.getElem?_take_of_lt hi] at ha
          exact ha
        obtain ⟨c, ⟨room, num⟩, seen, hr⟩ := fr_write hi
        obtain ⟨r', hr', ra⟩ := h.rs.get ha2
        rw [hr] at hr'
        cases hr'
        refine ⟨L.q, a, dx, _, _, _, s.arm, c, room, num, seen, rfl, s7 _ _ (s6 _ _ ho), ra.same (s6.trans s7), fun p hp => ⟨p, rfl, hp, ?_⟩⟩
        have : s.key i = (decide (room < s.arm), room, c) := by
          unfold Que.key
          rw [hr]
        rw [this]
      · intro a H7 ha s7
        rw [tl] at ha
        have hlt : argBest (fun i j => kLt (s.key i) (s.key j)) (s.fr - 1) < s.fr := by
          have := (List.getElem?_eq_some_iff.mp ha).1
          omega
        rw [List.getElem?_take_of_lt hlt, ← hpk] at ha
        obtain ⟨r, hr, ra⟩ := h.rs.get ha
        exact q a r H7 ha hr ra (s6.trans s7)
theorem map_step {α : Type} {f : α → α} {xs : List α} {n : Nat} {x : α} (h : xs[n]? = some x) : ((xs.take n).map f ++ xs.drop n).set n (f x) = (xs.take (n + 1)).map f ++ xs.drop (n + 1) := by
  have hn := (List.getElem?_eq_some_iff.mp h).1
  have e : xs.drop n = x :: xs.drop (n + 1) := by
    rw [← List.getElem_cons_drop hn]
    congr 1
    exact (List.getElem?_eq_some_iff.mp h).2
  rw [e, take_one h, List.map_append, List.append_assoc]
  have l : ((xs.take n).map f).length = n := by
    rw [List.length_map, List.length_take]
    omega
  rw [List.set_append_right _ _ (by omega), l, Nat.sub_self]
  rfl
theorem map_at {α : Type} {f : α → α} {xs : List α} {n : Nat} {x : α} (h : xs[n]? = some x) : ((xs.take n).map f ++ xs.drop n)[n]? = some x := by
  have hn := (List.getElem?_eq_some_iff.mp h).1
  have l : ((xs.take n).map f).length = n := by
    rw [List.length_map, List.length_take]
    omega
  rw [List.getElem?_append_right (by omega), l, Nat.sub_self, List.getElem?_drop]
  exact h
def Rq.inc (o : Rq) : Rq := { o with seen := o.seen + 1 }
def sp_Queue_served (K : PySem.W.Frag) : Sp := fun vs H Q _ => ∃ L s a r, vs = [.ref L.q, .ref a] ∧ QueAt K H L s ∧ s.row.length ≤ 1000000 ∧ ReqAt K H a r ∧ ∀ L' H', QueAt K H' L' (s.served r) → L'.q = L.q → Step L.foot L'.foot H H' → ReqAt K H' a r → Q .non H'
def t_Queue_served (K : PySem.W.Frag) : TS := (tSeq (sFld K (tVar 0) (tLc (iList K (tFld K (tVar 0) "row")) (gName 2) (tTest (tOp rNe (tFld K (tVar 2) "count") (tFld K (tVar 1) "count"))) (tVar 2) [2]) "row")
    (tSeq (tFor (iList K (tFld K (tVar 0) "row")) (gName 2) (sFldAug K (tVar 2) (tC (.int 1)) rAdd "seen"))
    (tIfS (tB (tMeth (He.ga K "Request") "is_write" (sp_Request_is_write K) [] E0 (tVar 1) tNil)) (sFld K (tVar 0) (tFld K (tVar 1) "spot") "spot") tNext)))
theorem len_Queue_served {K : PySem.W.Frag} (vs : List V) (H : Hp) (Q : VK) (E : XK) (h : sp_Queue_served K vs H Q E) : vs.length = ["self", "request"].length := by
  unfold sp_Queue_served at h
  repeat (first | (obtain ⟨e, _⟩ := h; rw [e]; done) | (obtain ⟨e, _⟩ := h; rw [e]; rfl; done) | obtain ⟨_, h⟩ := h)
theorem pure_Queue_served {K : PySem.W.Frag} (pf : PF K) {vs : List V} {H : Hp} {Q : VK} {E : XK} (h : sp_Queue_served K vs H Q E) : t_Queue_served K { nx := fun _ H' => Q .non H', rt := Q } (start ["self", "request", "other"] vs) H := by
  obtain ⟨L, s, a, r, rfl, h, hz, ra, q⟩ := h
  obtain ⟨dx, ho⟩ := h.ob
  have len := h.rs.len
  have nd := h.nd
  simp only [List.nodup_cons, List.mem_cons, not_or] at nd
  refine ⟨_, rfl, _, _, _, _, _, rfl, ho, pf.cl_Queue, pf.na_Queue_row, rfl, _, rfl, ⟨_, SqL.of h.lr⟩, ?_⟩
  refine comp_keep (fun o : Rq => !decide (o.cnt = r.cnt)) h.rs (SqL.of h.lr) (by omega) ?_ ?_ ?_
  · exact of_decide_eq_true rfl
  · rintro b y hb ⟨dy, e⟩ H1 s1 R rr
    have e1 := s1 _ _ e
    obtain ⟨dz, e2⟩ := ra.same s1
    refine ⟨_, rfl, _, _, _, _, _, rfl, e1, pf.cl_Request, pf.na_Request_count, rfl, _, rfl, _, _, _, _, _, rfl, e2, pf.cl_Request, pf.na_Request_count, rfl, rfl, _, rfl, ?_⟩
    have := rr H1 (Same.refl H1)
    have e3 : decide (V.int y.cnt = V.int r.cnt) = decide (y.cnt = r.cnt) := by
      by_cases z : y.cnt = r.cnt
      · rw [z]
        simp
      · rw [decide_eq_false z, decide_eq_false]
        intro w
        exact z (V.int.inj w)
    rw [e3]
    exact this
  · intro p H1 hp s1 hv
    have kA := keep2_all (fun o : Rq => !decide (o.cnt = r.cnt)) h.rs
    have ksub := keep2_sub (fun o : Rq => !decide (o.cnt = r.cnt)) L.rs s.row
    generalize hrs : keep2 (fun o : Rq => !decide (o.cnt = r.cnt)) L.rs s.row = rs at *
    generalize hrow : s.row.filter (fun o : Rq => !decide (o.cnt = r.cnt)) = row at *
    have han : a ∉ rs := fun z => by
      obtain ⟨x, hx, hp2, rx⟩ := keep2_all2 h.rs (hrs ▸ z)
      have := reqAt_inj ra rx
      subst this
      simp at hp2
    have nrs : rs.Nodup := ksub.nodup nd.2.2
    have ho1 := s1 _ _ ho
    have npq : p ≠ L.q := (ne_of_none ho hp).symm
    refine ⟨_, rfl, L.q, _, dx, _, rfl, ho1, pf.cl_Queue, pf.na_Queue_row, of_decide_eq_true rfl, ?_⟩
    have hob : upd H1 L.q (.ins (He.ga K "Queue") dx (putF "row" (.ref p) (queF (.int s.pat) (.ref L.lr) (.int s.put) (.int s.arm)))) L.q = some (.ins (He.ga K "Queue") dx (queF (.int s.pat) (.ref p) (.int s.put) (.int s.arm))) := upd_same
    have hv2 := (upd_ne (o := .ins (He.ga K "Queue") dx (putF "row" (.ref p) (queF (.int s.pat) (.ref L.lr) (.int s.put) (.int s.arm)))) npq).trans hv
    refine ⟨_, rfl, _, _, _, _, _, rfl, hob, pf.cl_Queue, pf.na_Queue_row, rfl, _, rfl, ⟨_, SqL.of hv2⟩, ?_⟩
    have hrsf : ∀ b, b ∈ rs → b ∈ L.foot := fun b hb => by
      unfold QL.foot
      simp [ksub.subset hb]
    have hqf : L.q ∈ L.foot := by
      unfold QL.foot
      simp
    have hqrs : L.q ∉ rs := fun z => nd.1.2 (ksub.subset z)
    have hprs : p ∉ rs := fun z => h.has (hrsf p z) hp
    have len2 := kA.len
    refine for_list (xs := rs.map V.ref) (fun n σ H2 => Step L.foot L.foot H H2 ∧ H2 p = some (.lst (rs.map V.ref)) ∧ H2 L.q = some (.ins (He.ga K "Queue") dx (queF (.int s.pat) (.ref p) (.int s.put) (.int s.arm))) ∧ ReqAt K H2 a r ∧ All2 (ReqAt K H2) rs ((row.take n).map Rq.inc ++ row.drop n) ∧ ∃ v2, σ = [some (.ref L.q), some (.ref a), v2])
      ⟨((Step.refl L.foot H).seq s1).upd (.inr ⟨hqf, fun xs => nt_ins ho1⟩), hv2, hob, ?_, ?_, _, rfl⟩ (fun n σ H2 _ h2 => SqL.of h2.2.1) ?_ ?_
    · obtain ⟨dz, e⟩ := ra
      refine ⟨dz, (upd_ne ?_).trans (s1 _ _ e)⟩
      exact ne_ins_ins pf.ne_Request_Queue.symm ho e
    · rw [List.take_zero, List.drop_zero]
      refine All2.imp kA ?_
      rintro b y hb _ ⟨dz, e⟩
      exact ⟨dz, (upd_ne (ne_ins_ins pf.ne_Request_Queue.symm ho e)).trans (s1 _ _ e)⟩
    · rintro n x σ H2 hx ⟨k2, hp2, hq2, ra2, hA2, v2, rfl⟩
      rw [List.getElem?_map] at hx
      obtain ⟨b, hb, rfl⟩ := Option.map_eq_some_iff.mp hx
      obtain ⟨y, hy, dy, e⟩ := hA2.get hb
      have hbm := List.mem_of_getElem? hb
      have hy2 : row[n]? = some y := by
        obtain ⟨z, hz⟩ : ∃ z, row[n]? = some z := ⟨row[n]'(by have := (List.getElem?_eq_some_iff.mp hb).1; omega), List.getElem?_eq_getElem _⟩
        rw [map_at hz] at hy
        cases hy
        exact hz
      refine ⟨_, rfl, b, _, dy, _, _, rfl, e, pf.cl_Request, pf.na_Request_seen, rfl, _, _, rfl, rfl, dy, _, e, of_decide_eq_true rfl, ?_⟩
      have kd : ∀ c o, H2 c = some o → c ≠ b → (upd H2 b (.ins (He.ga K "Request") dy (putF "seen" (.int (y.seen + 1)) (reqF (.int y.cnt) (roomV y.w) (numV y.w) (.int y.seen))))) c = some o := fun c o e n => by
        rw [upd_ne n]
        exact e
      refine ⟨k2.upd (.inr ⟨hrsf b hbm, fun xs => nt_ins e⟩), kd _ _ hp2 (fun z => hprs (z ▸ hbm)), kd _ _ hq2 (fun z => hqrs (z ▸ hbm)), ra2.imp fun dz e => kd _ _ e (fun z => han (z ▸ hbm)), ?_, _, rfl⟩
      have := map_step (f := Rq.inc) hy2
      rw [← this]
      refine All2.upd_at hA2 nrs hb ⟨dy, upd_same⟩ ?_
      rintro x z hx n ⟨dw, e2⟩
      exact ⟨dw, kd _ _ e2 n⟩
    · rintro σ H2 ⟨k2, hp2, hq2, ra2, hA2, v2, rfl⟩
      rw [List.length_map, len2, List.take_length, List.drop_length, List.append_nil] at hA2
      have fin : Step L.foot ({ L with lr := p, rs := rs } : QL).foot H H2 := k2.sub fun b hb => by
        unfold QL.foot at hb ⊢
        simp only [List.mem_cons] at hb ⊢
        rcases hb with hb | hb | hb
        · exact .inl (.inl hb)
        · exact .inr (hb ▸ hp)
        · exact .inl (.inr (.inr (ksub.subset hb)))
      have ndn : (L.q :: p :: rs).Nodup := by
        simp only [List.nodup_cons, List.mem_cons, not_or]
        exact ⟨⟨npq.symm, hqrs⟩, hprs, nrs⟩
      obtain ⟨dz, e⟩ := ra2
      refine ⟨_, rfl, a, dz, _, rfl, e, rfl, a, r, rfl, ⟨dz, e⟩, _, rfl, ?_⟩
      obtain ⟨rc, rw_, rsn⟩ := r
      cases rw_ with
      | none =>
        refine iteF (q { L with lr := p, rs := rs } H2 ⟨⟨dx, hq2⟩, hp2, ?_, ndn⟩ rfl fin ⟨dz, e⟩)
        show All2 _ rs _
        unfold Que.served
        dsimp only
        rw [hrow]
        exact hA2
      | some pr =>
        refine iteT ⟨_, rfl, _, _, _, _, _, rfl, e, pf.cl_Request, pf.na_Request_spot, rfl, _, rfl, L.q, _, dx, _, rfl, hq2, pf.cl_Queue, pf.na_Queue_spot, of_decide_eq_true rfl, ?_⟩
        have kd : ∀ c o, H2 c = some o → c ≠ L.q → (upd H2 L.q (.ins (He.ga K "Queue") dx (putF "spot" (.int pr.1) (queF (.int s.pat) (.ref p) (.int s.put) (.int s.arm))))) c = some o := fun c o e n => by
          rw [upd_ne n]
          exact e
        refine q { L with lr := p, rs := rs } _ ⟨⟨dx, upd_same⟩, kd _ _ hp2 npq, ?_, ndn⟩ rfl (fin.upd (.inr ⟨hqf, fun xs => nt_ins hq2⟩)) ⟨dz, kd _ _ e (ne_ins_ins pf.ne_Request_Queue.symm hq2 e)⟩
        show All2 _ rs _
        unfold Que.served
        dsimp only
        rw [hrow]
        refine All2.imp hA2 ?_
        rintro b y hb _ ⟨dw, e2⟩
        exact ⟨dw, kd _ _ e2 (fun z => hqrs (z ▸ hb))⟩
end SY

/-! ## Prog, part F: frames, stores -/
namespace SY
open PySem PySem.Spec PyProof.Rows L2 XB
def Sto.new (mf md pat : Int) (d : Dsk) : Sto := ⟨mf, md, [], Que.new pat, d⟩
def Fra.wash (f : Fra) : Fra := { f with dirty := false }
def Sto.clean (s : Sto) (i : Nat) : Sto := match s.frs[i]? with
  | none => s
  | some f => { s with q := s.q.put1 (some (f.room, f.num)), frs := s.frs.set i f.wash }
def Sto.others (s : Sto) (room : Int) : List Fra := s.frs.filter fun f => !decide (f.room = room)
def Sto.own (s : Sto) (room : Int) : List Fra := s.frs.filter fun f => decide (f.room = room)
def Sto.leave (s : Sto) : Sto := match s.frs.filter fun f => !f.dirty with
  | c :: _ => { s with frs := s.others c.room }
  | [] => match s.frs with
    | [] => s
    | f :: _ => { s.clean 0 with frs := (s.clean 0).others f.room }
def Sto.mid (s : Sto) (room : Int) : Sto := if (s.own room).isEmpty = true then (if decide ((s.frs.length : Int) = s.mf) = true then s.leave else s) else s
def Sto.look (s : Sto) (room : Int) : Int := match (s.q.mine room).getLast? with
  | none => (s.d.shown[room.toNat]?).getD 0
  | some r => (r.w.getD (0, 0)).2
def Sto.found (s : Sto) (room : Int) : List Fra := if (s.own room).isEmpty = true then [⟨room, (s.mid room).look room, false⟩] else s.own room
def Sto.use (s : Sto) (room : Int) : Sto := { s.mid room with frs := (s.mid room).others room ++ s.found room }
def Sto.useIx (s : Sto) (room : Int) : Nat := ((s.mid room).others room).length
structure Sto.Ok (s : Sto) (B : Nat) : Prop where
  size : 1 ≤ s.d.sure.length ∧ s.d.sure.length ≤ 40
  left : s.d.left = none
  drooms : ∀ lot ∈ s.d.lots, ∀ p ∈ lot, 0 ≤ p.1 ∧ p.1 < s.d.sure.length
  ne : s.d.lots ≠ []
  fr : ∀ f ∈ s.frs, 0 ≤ f.room ∧ f.room < s.d.sure.length
  rq : ∀ r ∈ s.q.row, ∀ p, r.w = some p → 0 ≤ p.1 ∧ p.1 < s.d.sure.length
  inc : s.q.row.Pairwise fun a b => a.cnt < b.cnt
  ctr : ∀ r ∈ s.q.row, r.cnt < s.q.put
  mf : 1 ≤ s.mf ∧ s.mf ≤ 8
  md : 1 ≤ s.md ∧ s.md ≤ s.mf
  nf : (s.frs.length : Int) ≤ s.mf
  wear : s.q.row.length + s.d.lots.flatten.length + s.d.lots.length ≤ B
theorem Sto.Ok.dk {s : Sto} {B : Nat} (h : s.Ok B) (hB : B ≤ 900000) : s.d.Ok := ⟨h.drooms, h.ne, by have := h.wear; omega, by have := h.wear; omega, h.size⟩
theorem Sto.Ok.row {s : Sto} {B : Nat} (h : s.Ok B) (hB : B ≤ 1000000) : s.q.row.length ≤ 1000000 := by
  have := h.wear
  omega
theorem Sto.Ok.mono {s : Sto} {B C : Nat} (h : s.Ok B) (hB : B ≤ C) : s.Ok C := { h with wear := Nat.le_trans h.wear hB }
theorem Dsk.look_at {s : Dsk} {room : Int} (h0 : 0 ≤ room) (h1 : room < s.sure.length) : s.shown[room.toNat]? = some ((s.shown[room.toNat]?).getD 0) := by
  have : room.toNat < s.shown.length := by
    rw [s.shown_len]
    omega
  rw [List.getElem?_eq_getElem this]
  rfl
section
variable {K : PySem.W.Frag} {H H' H1 : Hp} {A A' : List Addr}
theorem fraAt_inj {a : Addr} {r r' : Fra} (h : FraAt K H a r) (h' : FraAt K H a r') : r = r' := by
  obtain ⟨dx, e⟩ := h
  obtain ⟨dy, e'⟩ := h'
  rw [e] at e'
  obtain ⟨c, w, s⟩ := r
  obtain ⟨c', w', s'⟩ := r'
  have e2 := Option.some.inj e'
  injection e2 with _ _ e3
  unfold fraF at e3
  simp only [List.cons.injEq, Prod.mk.injEq, V.int.injEq, V.bl.injEq, true_and, and_true] at e3
  obtain ⟨rfl, rfl, rfl⟩ := e3
  rfl
theorem FraAt.same {a : Addr} {r : Fra} (h : FraAt K H a r) (s : Same H H') : FraAt K H' a r := h.imp fun dx e => s _ _ e
theorem own_nd {L : SL} {s : Sto} (h : StoAt K H L s) : (L.st :: L.lf :: L.fs).Nodup := by
  have := h.nd
  rw [List.nodup_append] at this
  have := this.2.1
  rw [List.nodup_append] at this
  exact this.2.1
theorem fs_foot {L : SL} {b : Addr} (h : b ∈ L.fs) : b ∈ L.foot := by
  unfold SL.foot
  simp [h]
theorem st_foot {L : SL} : L.st ∈ L.foot := by
  unfold SL.foot
  simp
/-- one frame anew -/
theorem StoAt.setFrame (pf : PF K) {L : SL} {s : Sto} {i : Nat} {a dx : Addr} {f f' : Fra} (h : StoAt K H L s) (hi : L.fs[i]? = some a) (hf : s.frs[i]? = some f) :
    StoAt K (upd H a (.ins (He.ga K "Frame") dx (fraF (.int f'.room) (.int f'.num) (.bl f'.dirty)))) L { s with frs := s.frs.set i f' } ∧ Step L.foot L.foot H (upd H a (.ins (He.ga K "Frame") dx (fraF (.int f'.room) (.int f'.num) (.bl f'.dirty)))) := by
  have nd := own_nd h
  simp only [List.nodup_cons, List.mem_cons, not_or] at nd
  have ha := List.mem_of_getElem? hi
  obtain ⟨f0, hf0, dy, e⟩ := h.fs.get hi
  have kd : ∀ c o, H c = some o → c ≠ a → (upd H a (.ins (He.ga K "Frame") dx (fraF (.int f'.room) (.int f'.num) (.bl f'.dirty)))) c = some o := fun c o e n => by
    rw [upd_ne n]
    exact e
  have k : Step (L.st :: L.lf :: L.fs) (L.st :: L.lf :: L.fs) H (upd H a (.ins (He.ga K "Frame") dx (fraF (.int f'.room) (.int f'.num) (.bl f'.dirty)))) := (Step.refl _ H).upd (.inr ⟨by simp [ha], fun xs => nt_ins e⟩)
  exact h.withOwn k (h.ob.imp fun dx e => kd _ _ e fun z => nd.1.2 (z ▸ ha)) (kd _ _ h.lf fun z => nd.2.1 (z ▸ ha)) (h.fs.upd_at nd.2.2 hi ⟨dx, upd_same⟩ fun x y hx n e => e.imp fun dw e => kd _ _ e n) (own_nd h)
/-- the frames anew -/
theorem StoAt.setFrames (pf : PF K) {L : SL} {s : Sto} {p dx : Addr} {fs' : List Addr} {frs' : List Fra} (h : StoAt K H L s) (s1 : Same H H1) (ho : H L.st = some (.ins (He.ga K "Store") dx (stoF (.ref L.d.d) (.int s.mf) (.int s.md) (.ref L.lf) (.ref L.q.q))))
    (hp : H p = none) (hv : H1 p = some (.lst (fs'.map V.ref))) (hf : All2 (FraAt K H1) fs' frs') (nd' : fs'.Nodup) (sub : ∀ b, b ∈ fs' → b ∈ L.fs ∨ H b = none) :
    StoAt K (upd H1 L.st (.ins (He.ga K "Store") dx (stoF (.ref L.d.d) (.int s.mf) (.int s.md) (.ref p) (.ref L.q.q)))) { L with lf := p, fs := fs' } { s with frs := frs' } ∧
      Step L.foot ({ L with lf := p, fs := fs' } : SL).foot H (upd H1 L.st (.ins (He.ga K "Store") dx (stoF (.ref L.d.d) (.int s.mf) (.int s.md) (.ref p) (.ref L.q.q)))) := by
  have ho1 := s1 _ _ ho
  have nps : p ≠ L.st := (ne_of_none ho hp).symm
  have kd : ∀ c o, H1 c = some o → c ≠ L.st → (upd H1 L.st (.ins (He.ga K "Store") dx (stoF (.ref L.d.d) (.int s.mf) (.int s.md) (.ref p) (.ref L.q.q)))) c = some o := fun c o e n => by
    rw [upd_ne n]
    exact e
  have nfs : ∀ b, b ∈ fs' → b ≠ L.st ∧ b ≠ p := fun b hb => by
    obtain ⟨f, _, dy, e⟩ := hf.mem hb
    exact ⟨ne_ins_ins pf.ne_Frame_Store.symm ho1 e, ne_lst_ins hv e⟩
  have k : Step (L.st :: L.lf :: L.fs) (L.st :: p :: fs') H (upd H1 L.st (.ins (He.ga K "Store") dx (stoF (.ref L.d.d) (.int s.mf) (.int s.md) (.ref p) (.ref L.q.q)))) := by
    refine (((Step.refl _ H).seq s1).upd (.inr ⟨by simp, fun xs => nt_ins ho1⟩)).sub fun b hb => ?_
    simp only [List.mem_cons] at hb ⊢
    rcases hb with hb | hb | hb
    · exact .inl (.inl hb)
    · exact .inr (hb ▸ hp)
    · exact (sub b hb).imp (fun z => .inr (.inr z)) id
  refine h.withOwn k ⟨dx, upd_same⟩ (kd _ _ hv nps) (hf.imp fun a f ha _ e => e.imp fun dy e => kd _ _ e (nfs a ha).1) ?_
  simp only [List.nodup_cons, List.mem_cons, not_or]
  exact ⟨⟨nps.symm, fun z => (nfs _ z).1 rfl⟩, fun z => (nfs _ z).2 rfl, nd'⟩
end
def sp_Frame_init (K : PySem.W.Frag) : Sp := fun vs H Q _ => ∃ x dx room num, vs = [.ref x, .int room, .int num] ∧ H x = some (.ins (He.ga K "Frame") dx []) ∧ ∀ H', FraAt K H' x ⟨room, num, false⟩ → Step [x] [x] H H' → Q .non H'
def t_Frame_init (K : PySem.W.Frag) : TS := (tSeq (sFld K (tVar 0) (tVar 1) "spot")
    (tSeq (sFld K (tVar 0) (tVar 2) "number")
    (sFld K (tVar 0) (tC (.bl false)) "dirty")))
theorem len_Frame_init {K : PySem.W.Frag} (vs : List V) (H : Hp) (Q : VK) (E : XK) (h : sp_Frame_init K vs H Q E) : vs.length = ["self", "room", "number"].length := by
  unfold sp_Frame_init at h
  repeat (first | (obtain ⟨e, _⟩ := h; rw [e]; done) | (obtain ⟨e, _⟩ := h; rw [e]; rfl; done) | obtain ⟨_, h⟩ := h)
theorem pure_Frame_init {K : PySem.W.Frag} (pf : PF K) {vs : List V} {H : Hp} {Q : VK} {E : XK} (h : sp_Frame_init K vs H Q E) : t_Frame_init K { nx := fun _ H' => Q .non H', rt := Q } (start ["self", "room", "number"] vs) H := by
  obtain ⟨x, dx, room, num, rfl, hx, q⟩ := h
  refine ⟨_, rfl, _, rfl, x, _, dx, [], rfl, hx, pf.cl_Frame, pf.na_Frame_spot, of_decide_eq_true rfl, ?_⟩
  refine ⟨_, rfl, _, rfl, x, _, dx, _, rfl, upd_same, pf.cl_Frame, pf.na_Frame_number, of_decide_eq_true rfl, ?_⟩
  refine ⟨_, rfl, x, _, dx, _, rfl, upd_same, pf.cl_Frame, pf.na_Frame_dirty, of_decide_eq_true rfl, ?_⟩
  refine q _ ⟨dx, upd_same⟩ ?_
  simp only [upd_upd]
  exact (Step.refl [x] H).upd (.inr ⟨by simp, fun xs => nt_ins hx⟩)
def sp_Store_init (K : PySem.W.Frag) : Sp := fun vs H Q _ => ∃ x dx D d mf md pat, vs = [.ref x, .ref D.d, .int mf, .int md, .int pat] ∧ H x = some (.ins (He.ga K "Store") dx []) ∧ DiskAt K H D d ∧ (1 ≤ mf ∧ mf ≤ 8) ∧ (1 ≤ md ∧ md ≤ mf) ∧ (0 ≤ pat ∧ pat ≤ 40) ∧
  ∀ L H', StoAt K H' L (Sto.new mf md pat d) → L.st = x → L.d = D → Step (x :: D.foot) L.foot H H' → Step [x] (x :: L.lf :: L.q.foot) H H' → Q .non H'
def t_Store_init (K : PySem.W.Frag) : TS := (tSeq (tIfS (tOr (tNot (tB (tCB (rIsi K) (tCons (tVar 1) (tCons (tC (.ref (He.ga K "Disk"))) tNil))))) (tOr (tNot (tB (tCall (sp_within K) [] E0 (tCons (tVar 2) (tCons (tC (.int 1)) (tCons (tC (.int 8)) tNil)))))) (tNot (tB (tCall (sp_within K) [] E0 (tCons (tVar 3) (tCons (tC (.int 1)) (tCons (tVar 2) tNil)))))))) tNever tNext)
    (tSeq (tIfS (tNot (tB (tCall (sp_within K) [] E0 (tCons (tVar 4) (tCons (tC (.int 0)) (tCons (tC (.int 40)) tNil)))))) tNever tNext)
    (tSeq (sFld K (tVar 0) (tVar 1) "disk")
    (tSeq (sFld K (tVar 0) (tVar 2) "most_frames")
    (tSeq (sFld K (tVar 0) (tVar 3) "most_dirty")
    (tSeq (sFld K (tVar 0) (tLst tNil) "frames")
    (sFld K (tVar 0) (tMake (He.ga K "Queue") (sp_Queue_init K) [] E0 (tCons (tVar 4) tNil)) "waiting")))))))
theorem len_Store_init {K : PySem.W.Frag} (vs : List V) (H : Hp) (Q : VK) (E : XK) (h : sp_Store_init K vs H Q E) : vs.length = ["self", "disk", "frames", "dirty", "patience"].length := by
  unfold sp_Store_init at h
  repeat (first | (obtain ⟨e, _⟩ := h; rw [e]; done) | (obtain ⟨e, _⟩ := h; rw [e]; rfl; done) | obtain ⟨_, h⟩ := h)
theorem pure_Store_init {K : PySem.W.Frag} (pf : PF K) {vs : List V} {H : Hp} {Q : VK} {E : XK} (h : sp_Store_init K vs H Q E) : t_Store_init K { nx := fun _ H' => Q .non H', rt := Q } (start ["self", "disk", "frames", "dirty", "patience"] vs) H := by
  obtain ⟨x, dx, D, d, mf, md, pat, rfl, hx, hd, ⟨f1, f2⟩, ⟨m1, m2⟩, ⟨p1, p2⟩, q⟩ := h
  obtain ⟨dd, hob⟩ := hd.ob
  refine ⟨_, rfl, _, _, _, _, true, rfl, .own _, .base (.ins hob pf.io_Disk.cl pf.io_Disk.ha pf.io_Disk.hn pf.io_Disk.htk pf.io_Disk.hm), pf.ki_Disk, _, rfl, iteF ?_⟩
  refine ⟨_, rfl, mf, 1, 8, rfl, _, rfl, within_no f1 f2 ?_⟩
  refine ⟨_, rfl, _, rfl, md, 1, mf, rfl, _, rfl, within_no m1 m2 ?_⟩
  refine ⟨_, rfl, pat, 0, 40, rfl, _, rfl, within_no p1 p2 ?_⟩
  refine ⟨_, rfl, _, rfl, x, _, dx, [], rfl, hx, pf.cl_Store, pf.na_Store_disk, of_decide_eq_true rfl, ?_⟩
  refine ⟨_, rfl, _, rfl, x, _, dx, _, rfl, upd_same, pf.cl_Store, pf.na_Store_most_frames, of_decide_eq_true rfl, ?_⟩
  refine ⟨_, rfl, _, rfl, x, _, dx, _, rfl, upd_same, pf.cl_Store, pf.na_Store_most_dirty, of_decide_eq_true rfl, ?_⟩
  simp only [upd_upd]
  refine ⟨of_decide_eq_true rfl, fun p hp => ?_⟩
  have npx : p ≠ x := (ne_of_none upd_same hp).symm
  refine ⟨_, rfl, x, _, dx, _, rfl, (upd_ne npx.symm).trans upd_same, pf.cl_Store, pf.na_Store_frames, of_decide_eq_true rfl, ?_⟩
  refine ⟨_, rfl, fun y dy hy hdy hyd => ?_⟩
  have k0 := Step.made (C := He.ga K "Queue") hy hdy
  refine ⟨y, dy, pat, rfl, upd_same, fun L H1 hq hLq k1 => ⟨rfl, ?_⟩⟩
  have k2 := k0.trans k1
  have kk := fun c o e => k2.kp c o e (by simp)
  have hxx := kk x _ upd_same
  refine ⟨_, rfl, x, _, dx, _, rfl, hxx, pf.cl_Store, pf.na_Store_waiting, of_decide_eq_true rfl, ?_⟩
  have hxH : ∀ b, H b ≠ none → b ≠ x → b ≠ p → H1 b = H b := fun b hb nb np => by
    cases e : H b with
    | none => exact absurd e hb
    | some o => exact kk b o (by rw [upd_ne nb, upd_ne np, upd_ne nb]; exact e)
  rw [upd_ne npx] at hp
  have nD : ∀ b, b ∈ D.foot → b ≠ x := fun b hb z => by
    unfold DL.foot at hb
    simp only [List.mem_cons] at hb
    rcases hb with hb | hb | hb | hb
    · exact ne_ins_ins pf.ne_Disk_Store.symm hx (hb ▸ hob : H b = _) z
    · exact ne_ins_lst hx (hb ▸ hd.ls : H b = _) z
    · exact ne_ins_lst hx (hb ▸ hd.lo : H b = _) z
    · obtain ⟨lot, _, ts, e, _⟩ := hd.lots.mem hb
      exact ne_ins_lst hx e z
  have kx : Step [x] [x] H (upd (upd (upd H x (.ins (He.ga K "Store") dx (putF "most_dirty" (.int md) (putF "most_frames" (.int mf) (putF "disk" (.ref D.d) []))))) p (.lst [])) x (.ins (He.ga K "Store") dx (putF "frames" (.ref p) (putF "most_dirty" (.int md) (putF "most_frames" (.int mf) (putF "disk" (.ref D.d) [])))))) := by
    have a1 := (Step.refl [x] H).upd (a := x) (o := .ins (He.ga K "Store") dx (putF "most_dirty" (.int md) (putF "most_frames" (.int mf) (putF "disk" (.ref D.d) [])))) (.inr ⟨by simp, fun xs => nt_ins hx⟩)
    have a2 := a1.seq (same_upd (p := p) (o := .lst []) (by rw [upd_ne npx]; exact hp))
    exact a2.upd (.inr ⟨by simp, fun xs => by rw [upd_ne npx.symm, upd_same]; intro z; cases z⟩)
  have fr : ∀ b, upd (upd (upd H x (.ins (He.ga K "Store") dx (putF "most_dirty" (.int md) (putF "most_frames" (.int mf) (putF "disk" (.ref D.d) []))))) p (.lst [])) x (.ins (He.ga K "Store") dx (putF "frames" (.ref p) (putF "most_dirty" (.int md) (putF "most_frames" (.int mf) (putF "disk" (.ref D.d) []))))) b = none → b ≠ x ∧ b ≠ p ∧ H b = none := fun b hb => by
    have n1 : b ≠ x := fun z => by
      rw [z, upd_same] at hb
      cases hb
    rw [upd_ne n1] at hb
    have n2 : b ≠ p := fun z => by
      rw [z, upd_same] at hb
      cases hb
    rw [upd_ne n2, upd_ne n1] at hb
    exact ⟨n1, n2, hb⟩
  have hLf : ∀ b, b ∈ L.foot → b ≠ x ∧ b ≠ p ∧ H b = none := fun b hb => by
    rcases k2.nw b hb with z | z
    · simp at z
    · exact fr b z
  have kall : Step [x] (x :: p :: L.foot) H (upd H1 x (.ins (He.ga K "Store") dx (putF "waiting" (.ref y) (putF "frames" (.ref p) (putF "most_dirty" (.int md) (putF "most_frames" (.int mf) (putF "disk" (.ref D.d) []))))))) := by
    have a3 := (kx.trans (k2.frame (B := [x]) (B' := [x]) (fun b z => by simp at z) (fun b z => .inr z))).upd (a := x) (o := .ins (He.ga K "Store") dx (putF "waiting" (.ref y) (putF "frames" (.ref p) (putF "most_dirty" (.int md) (putF "most_frames" (.int mf) (putF "disk" (.ref D.d) [])))))) (.inr ⟨by simp, fun xs => nt_ins hxx⟩)
    refine a3.sub fun b hb => ?_
    simp only [List.mem_cons, List.not_mem_nil, or_false] at hb ⊢
    rcases hb with hb | hb | hb
    · exact .inl hb
    · exact .inr (hb ▸ hp)
    · exact .inr (hLf b hb).2.2
  have hp1 : H1 p = some (.lst []) := kk p _ (by rw [upd_ne npx, upd_same])
  refine q ⟨x, p, [], L, D⟩ _ ⟨⟨dx, ?_⟩, ?_, .nil, ?_, ?_, ?_⟩ rfl rfl (kall.frame (fun b hb => by simp only [List.mem_singleton] at hb; simp [hb]) fun b hb => ?_) (kall.sub fun b hb => .inl hb)
  · show upd _ x _ x = _
    rw [upd_same, hLq]
    rfl
  · show upd _ x _ p = _
    rw [upd_ne npx]
    exact hp1
  · refine hq.step (A := [x]) (A' := [x]) ((Step.refl [x] H1).upd (.inr ⟨by simp, fun xs => nt_ins hxx⟩)) fun b hb => ?_
    rw [List.mem_singleton]
    exact (hLf b hb).1
  · refine hd.step kall fun b hb => ?_
    rw [List.mem_singleton]
    exact nD b hb
  · have h1 : (D.foot ++ (L.foot ++ [x, p])).Nodup := by
      rw [List.nodup_append]
      refine ⟨hd.nd, ?_, fun b hb c hc => ?_⟩
      · rw [List.nodup_append]
        refine ⟨hq.nd, by simp [npx.symm], fun b hb c hc => ?_⟩
        simp only [List.mem_cons, List.not_mem_nil, or_false] at hc
        rcases hc with rfl | rfl
        · exact (hLf b hb).1
        · exact (hLf b hb).2.1
      · simp only [List.mem_append, List.mem_cons, List.not_mem_nil, or_false] at hc
        rcases hc with hc | hc | hc
        · intro z
          exact hd.has hb (z ▸ (hLf c hc).2.2)
        · exact hc ▸ nD b hb
        · intro z
          exact hd.has hb (z ▸ hc ▸ hp)
    exact h1
  · unfold SL.foot at hb
    simp only [List.mem_append, List.mem_cons, List.not_mem_nil, or_false] at hb ⊢
    rcases hb with hb | hb | hb | hb
    · exact .inr (.inr hb)
    · exact .inl (.inr (.inr hb))
    · exact .inl (.inl hb)
    · exact .inl (.inr (.inl hb))
end SY

/-! ## Prog, part G: frames' use -/
namespace SY
open PySem PySem.Spec PyProof.Rows L2 XB
def sp_Store_check_room (K : PySem.W.Frag) : Sp := fun vs H Q _ => ∃ L s room, vs = [.ref L.st, .int room] ∧ StoAt K H L s ∧ 0 ≤ room ∧ room < s.d.sure.length ∧ Q .non H
def t_Store_check_room (K : PySem.W.Frag) : TS := (tIfS (tNot (tB (tCall (sp_within K) [] E0 (tCons (tVar 1) (tCons (tC (.int 0)) (tCons (tOp xSub (tMeth (He.ga K "Disk") "rooms" (sp_Disk_rooms K) [] E0 (tFld K (tVar 0) "disk") tNil) (tC (.int 1))) tNil)))))) tNever tNext)
theorem len_Store_check_room {K : PySem.W.Frag} (vs : List V) (H : Hp) (Q : VK) (E : XK) (h : sp_Store_check_room K vs H Q E) : vs.length = ["self", "room"].length := by
  unfold sp_Store_check_room at h
  repeat (first | (obtain ⟨e, _⟩ := h; rw [e]; done) | (obtain ⟨e, _⟩ := h; rw [e]; rfl; done) | obtain ⟨_, h⟩ := h)
theorem pure_Store_check_room {K : PySem.W.Frag} (pf : PF K) {vs : List V} {H : Hp} {Q : VK} {E : XK} (h : sp_Store_check_room K vs H Q E) : t_Store_check_room K { nx := fun _ H' => Q .non H', rt := Q } (start ["self", "room"] vs) H := by
  obtain ⟨L, s, room, rfl, h, h0, h1, q⟩ := h
  obtain ⟨dx, ho⟩ := h.ob
  obtain ⟨dd, hod⟩ := h.d.ob
  refine ⟨_, rfl, _, rfl, _, _, _, _, _, rfl, ho, pf.cl_Store, pf.na_Store_disk, rfl, L.d.d, dd, _, rfl, hod, rfl, L.d, s.d, rfl, h.d, _, _, rfl, rfl, room, 0, _, rfl, _, rfl, within_no h0 (by omega) q⟩
def sp_Store_clean (K : PySem.W.Frag) : Sp := fun vs H Q _ => ∃ L s i a f, vs = [.ref L.st, .ref a] ∧ StoAt K H L s ∧ s.q.row.length ≤ 1000000 ∧ L.fs[i]? = some a ∧ s.frs[i]? = some f ∧ ∀ L' H', StoAt K H' L' (s.clean i) → L'.st = L.st → L'.d = L.d → L'.lf = L.lf → L'.fs = L.fs → L'.q.q = L.q.q → Step L.foot L'.foot H H' → Q .non H'
def t_Store_clean (K : PySem.W.Frag) : TS := (tSeq (tDrop (tMeth (He.ga K "Queue") "put" (sp_Queue_put K) [] E0 (tFld K (tVar 0) "waiting") (tCons (tFld K (tVar 1) "spot") (tCons (tFld K (tVar 1) "number") tNil))))
    (sFld K (tVar 1) (tC (.bl false)) "dirty"))
theorem len_Store_clean {K : PySem.W.Frag} (vs : List V) (H : Hp) (Q : VK) (E : XK) (h : sp_Store_clean K vs H Q E) : vs.length = ["self", "frame"].length := by
  unfold sp_Store_clean at h
  repeat (first | (obtain ⟨e, _⟩ := h; rw [e]; done) | (obtain ⟨e, _⟩ := h; rw [e]; rfl; done) | obtain ⟨_, h⟩ := h)
theorem pure_Store_clean {K : PySem.W.Frag} (pf : PF K) {vs : List V} {H : Hp} {Q : VK} {E : XK} (h : sp_Store_clean K vs H Q E) : t_Store_clean K { nx := fun _ H' => Q .non H', rt := Q } (start ["self", "frame"] vs) H := by
  obtain ⟨L, s, i, a, f, rfl, h, hz, hi, hf, q⟩ := h
  obtain ⟨dx, ho⟩ := h.ob
  obtain ⟨dq, hoq⟩ := h.q.ob
  obtain ⟨f', hf', dy, e⟩ := h.fs.get hi
  rw [hf] at hf'
  cases hf'
  refine ⟨_, rfl, _, _, _, _, _, rfl, ho, pf.cl_Store, pf.na_Store_waiting, rfl, L.q.q, dq, _, rfl, hoq, rfl, _, rfl, _, _, _, _, _, rfl, e, pf.cl_Frame, pf.na_Frame_spot, rfl, _, rfl, _, _, _, _, _, rfl, e, pf.cl_Frame, pf.na_Frame_number, rfl, L.q, s.q, some (f.room, f.num), rfl, h.q, hz, fun D H1 hD hDq k => ?_⟩
  obtain ⟨h1, k1⟩ := h.withQue k hD hDq
  obtain ⟨f', hf', dy, e⟩ := h1.fs.get (i := i) hi
  rw [show ({ s with q := s.q.put1 (some (f.room, f.num)) } : Sto).frs = s.frs from rfl, hf] at hf'
  cases hf'
  obtain ⟨h2, k2⟩ := h1.setFrame pf (dx := dy) (f' := f.wash) hi hf
  refine ⟨_, rfl, a, _, dy, _, rfl, e, pf.cl_Frame, pf.na_Frame_dirty, of_decide_eq_true rfl, ?_⟩
  refine q { L with q := D } _ ?_ rfl rfl rfl rfl hDq (k1.trans k2)
  unfold Sto.clean
  rw [hf]
  exact h2
theorem rooms_bl (x y : Int) : (!decide (V.int x = V.int y)) = !decide (x = y) := by
  by_cases z : x = y
  · rw [z]
    simp
  · rw [decide_eq_false z, decide_eq_false]
    intro w
    exact z (V.int.inj w)
theorem rooms_bl2 (x y : Int) : decide (V.int x = V.int y) = decide (x = y) := by
  have := rooms_bl x y
  simpa using this
theorem clean_room {s : Sto} {i : Nat} {f : Fra} (hf : s.frs[i]? = some f) : (s.clean i).frs = s.frs.set i f.wash := by
  unfold Sto.clean
  rw [hf]
def sp_Store_leave (K : PySem.W.Frag) : Sp := fun vs H Q _ => ∃ L s, vs = [.ref L.st] ∧ StoAt K H L s ∧ s.q.row.length ≤ 1000000 ∧ s.frs.length ≤ 1000 ∧ s.frs ≠ [] ∧ ∀ L' H', StoAt K H' L' s.leave → L'.st = L.st → L'.d = L.d → L'.q.q = L.q.q → Step L.foot L'.foot H H' → Q .non H'
def t_Store_leave (K : PySem.W.Frag) : TS := (tSeq (tAsg (tLc (iList K (tFld K (tVar 0) "frames")) (gName 2) (tNot (tB (tFld K (tVar 2) "dirty"))) (tVar 2) [2]) (gName 1))
    (tSeq (tIfS (tTest (tOp (rEqE K) (tVar 1) (tLst tNil))) (tSeq (tDrop (tMeth (He.ga K "Store") "clean" (sp_Store_clean K) [] E0 (tVar 0) (tCons (tOp (rIxL K) (tFld K (tVar 0) "frames") (tC (.int 0))) tNil)))
    (tAsg (tFld K (tVar 0) "frames") (gName 1))) tNext)
    (sFld K (tVar 0) (tLc (iList K (tFld K (tVar 0) "frames")) (gName 2) (tTest (tOp rNe (tFld K (tVar 2) "spot") (tFld K (tOp (rIxL K) (tVar 1) (tC (.int 0))) "spot"))) (tVar 2) [2]) "frames")))
theorem len_Store_leave {K : PySem.W.Frag} (vs : List V) (H : Hp) (Q : VK) (E : XK) (h : sp_Store_leave K vs H Q E) : vs.length = ["self"].length := by
  unfold sp_Store_leave at h
  repeat (first | (obtain ⟨e, _⟩ := h; rw [e]; done) | (obtain ⟨e, _⟩ := h; rw [e]; rfl; done) | obtain ⟨_, h⟩ := h)
theorem pure_Store_leave {K : PySem.W.Frag} (pf : PF K) {vs : List V} {H : Hp} {Q : VK} {E : XK} (h : sp_Store_leave K vs H Q E) : t_Store_leave K { nx := fun _ H' => Q .non H', rt := Q } (start ["self", "clean", "frame"] vs) H := by
  obtain ⟨L, s, rfl, h, hz, hn, hne, q⟩ := h
  obtain ⟨dx, ho⟩ := h.ob
  have len := h.fs.len
  have ndo := own_nd h
  simp only [List.nodup_cons, List.mem_cons, not_or] at ndo
  refine ⟨_, rfl, _, _, _, _, _, rfl, ho, pf.cl_Store, pf.na_Store_frames, rfl, _, rfl, ⟨_, SqL.of h.lf⟩, ?_⟩
  refine comp_keep (fun f : Fra => !f.dirty) h.fs (SqL.of h.lf) (by omega) ?_ ?_ ?_
  · exact of_decide_eq_true rfl
  · rintro b y hb ⟨dy, e⟩ H1 s1 R rr
    have e1 := s1 _ _ e
    exact ⟨_, rfl, _, _, _, _, _, rfl, e1, pf.cl_Frame, pf.na_Frame_dirty, rfl, _, rfl, rr H1 (Same.refl H1)⟩
  · intro p H1 hp s1 hv
    have kA := keep2_all (fun f : Fra => !f.dirty) h.fs
    have ksub := keep2_sub (fun f : Fra => !f.dirty) L.fs s.frs
    refine ⟨_, rfl, of_decide_eq_true rfl, fun c hc => ⟨p, c, _, rfl, rfl, SqL.of (same_upd hc _ _ hv), SqL.of upd_same, _, rfl, ?_⟩⟩
    have s2 := s1.trans (same_upd (o := .lst []) hc)
    have hv2 := same_upd (o := .lst []) hc _ _ hv
    have h2 := h.same s2
    cases hk : keep2 (fun f : Fra => !f.dirty) L.fs s.frs with
    | nil =>
      refine iteT ?_
      have hfil : s.frs.filter (fun f => !f.dirty) = [] := kA.nil_iff.mp hk
      obtain ⟨a, as, hfs⟩ : ∃ x xs, L.fs = x :: xs := by
        cases e : L.fs with
        | nil => exact absurd (h.fs.nil_iff.mp e) hne
        | cons x xs => exact ⟨x, xs, rfl⟩
      obtain ⟨f, fs, hfr⟩ : ∃ y ys, s.frs = y :: ys := by
        cases e : s.frs with
        | nil => exact absurd e hne
        | cons x xs => exact ⟨x, xs, rfl⟩
      have ha0 : L.fs[0]? = some a := by rw [hfs]; rfl
      have hf0 : s.frs[0]? = some f := by rw [hfr]; rfl
      have ho2 := s2 _ _ ho
      refine ⟨_, rfl, L.st, dx, _, rfl, ho2, rfl, _, rfl, _, _, _, _, _, rfl, ho2, pf.cl_Store, pf.na_Store_frames, rfl, L.lf, _, 0, .ref a, rfl, rfl, SqL.of h2.lf, ?_, ?_⟩
      · refine atI_of (j := 0) ?_
        rw [List.getElem?_map, ha0]
        rfl
      refine ⟨L, s, 0, a, f, rfl, h2, hz, ha0, hf0, fun L3 H3 h3 e1 e2 e3 e4 e5 k3 => ?_⟩
      obtain ⟨dx3, ho3⟩ := h3.ob
      rw [e1] at ho3
      refine ⟨_, rfl, _, _, _, _, _, rfl, ho3, pf.cl_Store, pf.na_Store_frames, rfl, ?_⟩
      refine ⟨_, rfl, _, _, _, _, _, rfl, ho3, pf.cl_Store, pf.na_Store_frames, rfl, _, rfl, ⟨_, SqL.of h3.lf⟩, ?_⟩
      have len3 := h3.fs.len
      have n3 : (s.clean 0).frs.length = s.frs.length := by
        rw [clean_room hf0, List.length_set]
      refine comp_keep (fun g : Fra => !decide (g.room = f.room)) h3.fs (SqL.of h3.lf) (by omega) ?_ ?_ ?_
      · exact of_decide_eq_true rfl
      · rintro b y hb ⟨dy, e⟩ H4 s4 R rr
        have e5 := s4 _ _ e
        have h4 := h3.same s4
        have hb0 : L3.fs[0]? = some a := by rw [e4]; exact ha0
        obtain ⟨g, hg, dg, eg⟩ := h4.fs.get hb0
        rw [clean_room hf0, List.getElem?_set_self (by rw [hfr]; simp)] at hg
        cases hg
        refine ⟨_, rfl, _, _, _, _, _, rfl, e5, pf.cl_Frame, pf.na_Frame_spot, rfl, _, rfl, L3.lf, _, 0, .ref a, rfl, rfl, SqL.of h4.lf, ?_, a, _, _, _, _, rfl, eg, pf.cl_Frame, pf.na_Frame_spot, rfl, rfl, _, rfl, ?_⟩
        · refine atI_of (j := 0) ?_
          rw [List.getElem?_map, hb0]
          rfl
        · rw [rooms_bl]
          exact rr H4 (Same.refl H4)
      · intro p4 H4 hp4 s4 hv4
        have kA4 := keep2_all (fun g : Fra => !decide (g.room = f.room)) h3.fs
        have ksub4 := keep2_sub (fun g : Fra => !decide (g.room = f.room)) L3.fs (s.clean 0).frs
        have ho3' : H3 L3.st = some (.ins (He.ga K "Store") dx3 (stoF (.ref L3.d.d) (.int (s.clean 0).mf) (.int (s.clean 0).md) (.ref L3.lf) (.ref L3.q.q))) := by
          rw [e1]
          exact ho3
        have nd3 := own_nd h3
        simp only [List.nodup_cons, List.mem_cons, not_or] at nd3
        obtain ⟨h5, k5⟩ := h3.setFrames pf s4 ho3' hp4 hv4 (kA4.imp fun a f _ _ r => r.same s4) (ksub4.nodup nd3.2.2) fun b hb => .inl (ksub4.subset hb)
        refine ⟨_, rfl, L3.st, _, dx3, _, by rw [e1], s4 _ _ ho3', pf.cl_Store, pf.na_Store_frames, of_decide_eq_true rfl, ?_⟩
        refine q { L3 with lf := p4, fs := keep2 (fun g : Fra => !decide (g.room = f.room)) L3.fs (s.clean 0).frs } _ ?_ e1 e2 e5 (((Step.same L.foot s2).trans k3).trans k5)
        unfold Sto.leave
        rw [hfil]
        dsimp only
        rw [hfr]
        exact h5
    | cons a as =>
      refine iteF ?_
      obtain ⟨f, fs, hfil⟩ : ∃ f fs, s.frs.filter (fun f => !f.dirty) = f :: fs := by
        cases e : s.frs.filter (fun f => !f.dirty) with
        | nil =>
          have := kA.nil_iff.mpr e
          rw [hk] at this
          cases this
        | cons x xs => exact ⟨x, xs, rfl⟩
      have ra : FraAt K H a f := by
        rw [hk, hfil] at kA
        cases kA with
        | cons r _ => exact r
      have ho2 := s2 _ _ ho
      rw [hk] at hv2
      refine ⟨_, rfl, _, _, _, _, _, rfl, ho2, pf.cl_Store, pf.na_Store_frames, rfl, _, rfl, ⟨_, SqL.of h2.lf⟩, ?_⟩
      refine comp_keep (fun g : Fra => !decide (g.room = f.room)) h2.fs (SqL.of h2.lf) (by omega) ?_ ?_ ?_
      · exact of_decide_eq_true rfl
      · rintro b y hb ⟨dy, e⟩ H4 s4 R rr
        have e5 := s4 _ _ e
        obtain ⟨dg, eg⟩ := ra.same (s2.trans s4)
        refine ⟨_, rfl, _, _, _, _, _, rfl, e5, pf.cl_Frame, pf.na_Frame_spot, rfl, _, rfl, p, _, 0, .ref a, rfl, rfl, SqL.of (s4 _ _ hv2), atI_of (j := 0) rfl, a, _, _, _, _, rfl, eg, pf.cl_Frame, pf.na_Frame_spot, rfl, rfl, _, rfl, ?_⟩
        rw [rooms_bl]
        exact rr H4 (Same.refl H4)
      · intro p4 H4 hp4 s4 hv4
        have kA4 := keep2_all (fun g : Fra => !decide (g.room = f.room)) h2.fs
        have ksub4 := keep2_sub (fun g : Fra => !decide (g.room = f.room)) L.fs s.frs
        obtain ⟨h5, k5⟩ := h2.setFrames pf s4 ho2 hp4 hv4 (kA4.imp fun a f _ _ r => r.same s4) (ksub4.nodup ndo.2.2) fun b hb => .inl (ksub4.subset hb)
        refine ⟨_, rfl, L.st, _, dx, _, rfl, s4 _ _ ho2, pf.cl_Store, pf.na_Store_frames, of_decide_eq_true rfl, ?_⟩
        refine q { L with lf := p4, fs := keep2 (fun g : Fra => !decide (g.room = f.room)) L.fs s.frs } _ ?_ rfl rfl rfl ((Step.same L.foot s2).trans k5)
        unfold Sto.leave
        rw [hfil]
        exact h5
theorem leave_d (s : Sto) : s.leave.d = s.d := by
  unfold Sto.leave
  split
  · rfl
  · split
    · rfl
    · dsimp only
      unfold Sto.clean
      split <;> rfl
theorem mid_d (s : Sto) (room : Int) : (s.mid room).d = s.d := by
  unfold Sto.mid
  split
  · split
    · exact leave_d s
    · rfl
  · rfl
theorem clean_row (s : Sto) (i : Nat) : (s.clean i).q.row.length ≤ s.q.row.length + 1 := by
  unfold Sto.clean
  split
  · omega
  · simp [Que.put1]
theorem clean_nfr (s : Sto) (i : Nat) : (s.clean i).frs.length = s.frs.length := by
  unfold Sto.clean
  split <;> simp
theorem others_len (s : Sto) (room : Int) : (s.others room).length ≤ s.frs.length := List.length_filter_le _ _
theorem leave_row (s : Sto) : s.leave.q.row.length ≤ s.q.row.length + 1 := by
  unfold Sto.leave
  split
  · simp
  · split
    · omega
    · exact clean_row s 0
theorem leave_nfr (s : Sto) : s.leave.frs.length ≤ s.frs.length := by
  unfold Sto.leave
  split
  · exact others_len _ _
  · split
    · omega
    · exact Nat.le_trans (others_len _ _) (Nat.le_of_eq (clean_nfr s 0))
theorem mid_row (s : Sto) (room : Int) : (s.mid room).q.row.length ≤ s.q.row.length + 1 := by
  unfold Sto.mid
  split
  · split
    · exact leave_row s
    · omega
  · omega
theorem mid_nfr (s : Sto) (room : Int) : (s.mid room).frs.length ≤ s.frs.length := by
  unfold Sto.mid
  split
  · split
    · exact leave_nfr s
    · omega
  · omega
theorem mine_w {q : Que} {room : Int} {r : Rq} (h : (q.mine room).getLast? = some r) : ∃ n, r.w = some (room, n) := by
  have hm := List.mem_of_getLast? h
  unfold Que.mine at hm
  have hp := of_decide_eq_true (List.mem_filter.mp hm).2
  obtain ⟨c, w, s⟩ := r
  cases w with
  | none => cases hp
  | some p =>
    obtain ⟨p1, p2⟩ := p
    have := V.int.inj hp
    exact ⟨p2, by rw [show p1 = room from this]⟩
def sp_Store_use (K : PySem.W.Frag) : Sp := fun vs H Q _ => ∃ L s room B, vs = [.ref L.st, .int room] ∧ StoAt K H L s ∧ s.Ok B ∧ B ≤ 900000 ∧ 0 ≤ room ∧ room < s.d.sure.length ∧
  ∀ L' H' a, StoAt K H' L' (s.use room) → L'.fs[s.useIx room]? = some a → L'.st = L.st → L'.d = L.d → L'.q.q = L.q.q → Step L.foot L'.foot H H' → Q (.ref a) H'
def t_Store_use (K : PySem.W.Frag) : TS := (tSeq (tAsg (tLc (iList K (tFld K (tVar 0) "frames")) (gName 4) (tTest (tOp rEq (tFld K (tVar 4) "spot") (tVar 1))) (tVar 4) [4]) (gName 2))
    (tSeq (tIfS (tTest (tOp (rEqE K) (tVar 2) (tLst tNil))) (tSeq (tIfS (tTest (tOp rEq (tCB (xLen K) (tCons (tFld K (tVar 0) "frames") tNil)) (tFld K (tVar 0) "most_frames"))) (tDrop (tMeth (He.ga K "Store") "leave" (sp_Store_leave K) [] E0 (tVar 0) tNil)) tNext)
    (tSeq (tAsg (tMeth (He.ga K "Queue") "newest" (sp_Queue_newest K) [] E0 (tFld K (tVar 0) "waiting") (tCons (tVar 1) tNil)) (gName 3))
    (tAsg (tLst (tCons (tMake (He.ga K "Frame") (sp_Frame_init K) [] E0 (tCons (tVar 1) (tCons (tIf (tTest (tOp xIsN (tVar 3) (tC .non))) (tMeth (He.ga K "Disk") "ask_read" (sp_Disk_ask_read K) [] E0 (tFld K (tVar 0) "disk") (tCons (tVar 1) tNil)) (tFld K (tVar 3) "number")) tNil))) tNil)) (gName 2)))) tNext)
    (tSeq (sFld K (tVar 0) (tOp rCat (tLc (iList K (tFld K (tVar 0) "frames")) (gName 4) (tTest (tOp rNe (tFld K (tVar 4) "spot") (tVar 1))) (tVar 4) [4]) (tVar 2)) "frames")
    (tRet (tOp (rIxL K) (tVar 2) (tC (.int 0)))))))
theorem len_Store_use {K : PySem.W.Frag} (vs : List V) (H : Hp) (Q : VK) (E : XK) (h : sp_Store_use K vs H Q E) : vs.length = ["self", "room"].length := by
  unfold sp_Store_use at h
  repeat (first | (obtain ⟨e, _⟩ := h; rw [e]; done) | (obtain ⟨e, _⟩ := h; rw [e]; rfl; done) | obtain ⟨_, h⟩ := h)
/-- .. behind the frame that was found -/
theorem use_tail {K : PySem.W.Frag} (pf : PF K) {L : SL} {s : Sto} {room : Int} {H : Hp} {Q : VK} {v4 : Option V} {v3 : Option V} {g : Addr} {gs : List Addr} {frs : List Fra} (h : StoAt K H L s) (hg : H g = some (.lst (gs.map V.ref))) (hA : All2 (FraAt K H) gs frs) (hne : gs ≠ []) (hz : s.frs.length ≤ 1000) (hz2 : gs.length ≤ 1000)
    (nd' : (keep2 (fun f : Fra => !decide (f.room = room)) L.fs s.frs ++ gs).Nodup) (hold : ∀ b, b ∈ gs → b ∈ L.fs ∨ b ∉ L.foot)
    (q : ∀ L' H' a, StoAt K H' L' { s with frs := s.others room ++ frs } → L'.fs[(s.others room).length]? = some a → L'.st = L.st → L'.d = L.d → L'.q.q = L.q.q → Step (L.foot ++ gs) L'.foot H H' → Q (.ref a) H') :
    (tSeq (sFld K (tVar 0) (tOp rCat (tLc (iList K (tFld K (tVar 0) "frames")) (gName 4) (tTest (tOp rNe (tFld K (tVar 4) "spot") (tVar 1))) (tVar 4) [4]) (tVar 2)) "frames")
    (tRet (tOp (rIxL K) (tVar 2) (tC (.int 0))))) { nx := fun _ H' => Q .non H', rt := Q } [some (.ref L.st), some (.int room), some (.ref g), v3, v4] H := by
  obtain ⟨dx, ho⟩ := h.ob
  refine ⟨_, rfl, _, _, _, _, _, rfl, ho, pf.cl_Store, pf.na_Store_frames, rfl, _, rfl, ⟨_, SqL.of h.lf⟩, ?_⟩
  have len := h.fs.len
  refine comp_keep (fun f : Fra => !decide (f.room = room)) h.fs (SqL.of h.lf) (by omega) ?_ ?_ ?_
  · exact of_decide_eq_true rfl
  · rintro b y hb ⟨dy, e⟩ H4 s4 R rr
    have e5 := s4 _ _ e
    refine ⟨_, rfl, _, _, _, _, _, rfl, e5, pf.cl_Frame, pf.na_Frame_spot, rfl, _, rfl, rfl, _, rfl, ?_⟩
    rw [rooms_bl]
    exact rr H4 (Same.refl H4)
  · intro p H1 hp s1 hv
    have kA := keep2_all (fun f : Fra => !decide (f.room = room)) h.fs
    have ksub := keep2_sub (fun f : Fra => !decide (f.room = room)) L.fs s.frs
    have kl := keep2_len (fun f : Fra => !decide (f.room = room)) L.fs s.frs
    have hg1 := s1 _ _ hg
    refine ⟨_, rfl, p, g, _, _, rfl, rfl, hv, hg1, ?_, fun c hc => ?_⟩
    · rw [List.length_map, List.length_map]
      exact Nat.le_trans (by omega : _ ≤ 2000) (by decide)
    have s2 := s1.trans (same_upd (o := .lst ((keep2 (fun f : Fra => !decide (f.room = room)) L.fs s.frs).map V.ref ++ gs.map V.ref)) hc)
    have ho2 := s2 _ _ ho
    have hcH : H c = none := s1.free hc
    have hfr : All2 (FraAt K (upd H1 c (.lst ((keep2 (fun f : Fra => !decide (f.room = room)) L.fs s.frs).map V.ref ++ gs.map V.ref)))) (keep2 (fun f : Fra => !decide (f.room = room)) L.fs s.frs ++ gs) (s.others room ++ frs) :=
      (kA.imp fun a f _ _ r => r.same s2).append (hA.imp fun a f _ _ r => r.same s2)
    have hv2 : (upd H1 c (.lst ((keep2 (fun f : Fra => !decide (f.room = room)) L.fs s.frs).map V.ref ++ gs.map V.ref))) c = some (.lst ((keep2 (fun f : Fra => !decide (f.room = room)) L.fs s.frs ++ gs).map V.ref)) := by
      rw [upd_same, List.map_append]
    obtain ⟨a, as, rfl⟩ : ∃ a as, gs = a :: as := by
      cases gs with
      | nil => exact absurd rfl hne
      | cons a as => exact ⟨a, as, rfl⟩
    have ncs : c ≠ L.st := (ne_of_none ho hcH).symm
    have ncg : g ≠ L.st := ne_ins_lst ho hg
    refine ⟨_, rfl, L.st, _, dx, _, rfl, ho2, pf.cl_Store, pf.na_Store_frames, of_decide_eq_true rfl, ?_⟩
    have hgf : upd (upd H1 c (.lst ((keep2 (fun f : Fra => !decide (f.room = room)) L.fs s.frs).map V.ref ++ (a :: as).map V.ref))) L.st (.ins (He.ga K "Store") dx (putF "frames" (.ref c) (stoF (.ref L.d.d) (.int s.mf) (.int s.md) (.ref L.lf) (.ref L.q.q)))) g = some (.lst ((a :: as).map V.ref)) := by
      rw [upd_ne ncg]
      exact s2 _ _ hg
    refine ⟨_, rfl, g, _, 0, .ref a, rfl, rfl, SqL.of hgf, atI_of (j := 0) rfl, ?_⟩
    have kf : Step (L.foot ++ a :: as) ({ L with lf := c, fs := keep2 (fun f : Fra => !decide (f.room = room)) L.fs s.frs ++ a :: as } : SL).foot H (upd (upd H1 c (.lst ((keep2 (fun f : Fra => !decide (f.room = room)) L.fs s.frs).map V.ref ++ (a :: as).map V.ref))) L.st (.ins (He.ga K "Store") dx (putF "frames" (.ref c) (stoF (.ref L.d.d) (.int s.mf) (.int s.md) (.ref L.lf) (.ref L.q.q))))) := by
      refine (((Step.refl _ H).seq s2).upd (.inr ⟨List.mem_append_left _ st_foot, fun xs => nt_ins ho2⟩)).sub fun b hb => ?_
      unfold SL.foot at hb ⊢
      simp only [List.mem_append, List.mem_cons] at hb ⊢
      rcases hb with hb | hb | hb | hb | hb | hb | hb
      · exact .inl (.inl (.inl hb))
      · exact .inl (.inl (.inr (.inl hb)))
      · exact .inl (.inl (.inr (.inr (.inl hb))))
      · exact .inr (hb ▸ hcH)
      · exact .inl (.inl (.inr (.inr (.inr (.inr (ksub.subset hb))))))
      · exact .inl (.inr (.inl hb))
      · exact .inl (.inr (.inr hb))
    refine q { L with lf := c, fs := keep2 (fun f : Fra => !decide (f.room = room)) L.fs s.frs ++ a :: as } _ a ?_ ?_ rfl rfl rfl kf
    · have nst : ∀ b, b ∈ keep2 (fun f : Fra => !decide (f.room = room)) L.fs s.frs ++ a :: as → b ≠ L.st ∧ b ≠ c := fun b hb => by
        obtain ⟨f, _, dy, e⟩ := hfr.mem hb
        exact ⟨ne_ins_ins pf.ne_Frame_Store.symm ho2 e, ne_lst_ins hv2 e⟩
      have hdj : ∀ b, b ∈ L.d.foot ++ L.q.foot → b ∉ [L.st] := fun b hb z => by
        have := h.nd
        rw [← List.append_assoc, List.nodup_append] at this
        exact this.2.2 b hb L.st (by simp) (by simpa using z)
      have k1 : Step [L.st] [L.st] H (upd (upd H1 c (.lst ((keep2 (fun f : Fra => !decide (f.room = room)) L.fs s.frs).map V.ref ++ (a :: as).map V.ref))) L.st (.ins (He.ga K "Store") dx (putF "frames" (.ref c) (stoF (.ref L.d.d) (.int s.mf) (.int s.md) (.ref L.lf) (.ref L.q.q))))) :=
        ((Step.refl _ H).seq s2).upd (.inr ⟨by simp, fun xs => nt_ins ho2⟩)
      refine ⟨⟨dx, upd_same⟩, (upd_ne ncs).trans hv2, hfr.imp fun b f hb _ e => e.imp fun dy e => (upd_ne (nst b hb).1).trans e, h.q.step k1 fun b hb => hdj b (by simp [hb]), h.d.step k1 fun b hb => hdj b (by simp [hb]), ?_⟩
      have nd0 := h.nd
      rw [← List.append_assoc, List.nodup_append] at nd0
      have : ((L.d.foot ++ L.q.foot) ++ (L.st :: c :: (keep2 (fun f : Fra => !decide (f.room = room)) L.fs s.frs ++ a :: as))).Nodup := by
        rw [List.nodup_append]
        refine ⟨nd0.1, ?_, fun b hb x hx z => ?_⟩
        · simp only [List.nodup_cons]
          refine ⟨?_, ?_, nd'⟩
          · rw [List.mem_cons, not_or]
            exact ⟨ncs.symm, fun z => (nst _ z).1 rfl⟩
          · exact fun z => (nst _ z).2 rfl
        · subst z
          simp only [List.mem_cons, List.mem_append] at hx
          rcases hx with hx | hx | hx | hx
          · exact nd0.2.2 b hb _ (by simp) hx
          · refine h.has (b := b) ?_ (hx ▸ hcH)
            unfold SL.foot
            rw [← List.append_assoc]
            exact List.mem_append_left _ hb
          · exact nd0.2.2 b hb b (by simp [ksub.subset hx]) rfl
          · rcases hold b (by simpa using hx) with z | z
            · exact nd0.2.2 b hb b (by simp [z]) rfl
            · refine z ?_
              unfold SL.foot
              rw [← List.append_assoc]
              exact List.mem_append_left _ hb
      rw [List.append_assoc] at this
      exact this
    · have : (keep2 (fun f : Fra => !decide (f.room = room)) L.fs s.frs).length = (s.others room).length := kA.len
      show (keep2 _ L.fs s.frs ++ a :: as)[_]? = _
      rw [List.getElem?_append_right (by omega), this, Nat.sub_self]
      rfl
end SY

/-! ## Prog, part H: reads, writes -/
namespace SY
open PySem PySem.Spec PyProof.Rows L2 XB
theorem use_own {s : Sto} {room : Int} (h : (s.own room).isEmpty = false) : s.use room = { s with frs := s.others room ++ s.own room } ∧ s.useIx room = (s.others room).length := by
  have hm : s.mid room = s := by
    unfold Sto.mid
    rw [h]
    rfl
  unfold Sto.use Sto.useIx Sto.found
  rw [hm, h]
  exact ⟨rfl, rfl⟩
theorem use_new {s : Sto} {room : Int} (h : (s.own room).isEmpty = true) : s.use room = { s.mid room with frs := (s.mid room).others room ++ [⟨room, (s.mid room).look room, false⟩] } ∧ s.useIx room = ((s.mid room).others room).length := by
  unfold Sto.use Sto.useIx Sto.found
  rw [h]
  exact ⟨rfl, rfl⟩
theorem pure_Store_use {K : PySem.W.Frag} (pf : PF K) {vs : List V} {H : Hp} {Q : VK} {E : XK} (h : sp_Store_use K vs H Q E) : t_Store_use K { nx := fun _ H' => Q .non H', rt := Q } (start ["self", "room", "found", "request", "frame"] vs) H := by
  obtain ⟨L, s, room, B, rfl, h, ok, hB, h0, h1, q⟩ := h
  obtain ⟨dx, ho⟩ := h.ob
  have len := h.fs.len
  have hrow := ok.row (by omega)
  have hnf := ok.nf
  have hmf := ok.mf
  have ndo := own_nd h
  simp only [List.nodup_cons, List.mem_cons, not_or] at ndo
  refine ⟨_, rfl, _, _, _, _, _, rfl, ho, pf.cl_Store, pf.na_Store_frames, rfl, _, rfl, ⟨_, SqL.of h.lf⟩, ?_⟩
  refine comp_keep (fun f : Fra => decide (f.room = room)) h.fs (SqL.of h.lf) (by omega) ?_ ?_ ?_
  · exact of_decide_eq_true rfl
  · rintro b y hb ⟨dy, e⟩ H4 s4 R rr
    have e5 := s4 _ _ e
    refine ⟨_, rfl, _, _, _, _, _, rfl, e5, pf.cl_Frame, pf.na_Frame_spot, rfl, _, rfl, rfl, _, rfl, ?_⟩
    rw [rooms_bl2]
    exact rr H4 (Same.refl H4)
  · intro p H1 hp s1 hv
    have kA := keep2_all (fun f : Fra => decide (f.room = room)) h.fs
    have ksub := keep2_sub (fun f : Fra => decide (f.room = room)) L.fs s.frs
    have kl := keep2_len (fun f : Fra => decide (f.room = room)) L.fs s.frs
    refine ⟨_, rfl, of_decide_eq_true rfl, fun c hc => ⟨p, c, _, rfl, rfl, SqL.of (same_upd hc _ _ hv), SqL.of upd_same, _, rfl, ?_⟩⟩
    have s2 := s1.trans (same_upd (o := .lst []) hc)
    have hv2 := same_upd (o := .lst []) hc _ _ hv
    have h2 := h.same s2
    cases hk : keep2 (fun f : Fra => decide (f.room = room)) L.fs s.frs with
    | cons a as =>
      refine iteF ?_
      have hown : (s.own room).isEmpty = false := by
        cases e : s.own room with
        | nil =>
          have := kA.nil_iff.mpr e
          rw [hk] at this
          cases this
        | cons x xs => rfl
      obtain ⟨eu, ei⟩ := use_own hown
      rw [hk] at hv2 ksub kl kA
      refine use_tail pf h2 hv2 (kA.imp fun a f _ _ r => r.same s2) (by simp) (by omega) (by omega) ?_ (fun b hb => .inl (ksub.subset hb)) fun L' H' a' h3 ha e1 e2 e3 k => ?_
      · rw [List.nodup_append]
        refine ⟨(keep2_sub _ L.fs s.frs).nodup ndo.2.2, ksub.nodup ndo.2.2, fun x hx y hy z => ?_⟩
        subst z
        obtain ⟨f1, _, n1, r1⟩ := keep2_all2 h.fs hx
        rw [← hk] at hy
        obtain ⟨f2, _, n2, r2⟩ := keep2_all2 h.fs hy
        have := fraAt_inj r1 r2
        subst this
        rw [n2] at n1
        cases n1
      · refine q L' H' a' (eu ▸ h3) (ei ▸ ha) e1 e2 e3 ((Step.same (L.foot) s2).trans (k.frame (fun b hb => ?_) fun b hb => .inl hb))
        rcases List.mem_append.mp hb with z | z
        · exact z
        · exact fs_foot (ksub.subset z)
    | nil =>
      refine iteT ?_
      have hown : (s.own room).isEmpty = true := by
        have : s.own room = [] := kA.nil_iff.mp hk
        rw [this]
        rfl
      obtain ⟨eu, ei⟩ := use_new hown
      have ho2 := s2 _ _ ho
      obtain ⟨dd, hod⟩ := h2.d.ob
      -- what goes on behind the leaving
      have rest : ∀ L3 H3, StoAt K H3 L3 (s.mid room) → L3.st = L.st → L3.d = L.d → L3.q.q = L.q.q → Step L.foot L3.foot H H3 → ∀ w, H3 p = some (.lst w) → ∀ v3 v4 : Option V,
          (tSeq (tAsg (tMeth (He.ga K "Queue") "newest" (sp_Queue_newest K) [] E0 (tFld K (tVar 0) "waiting") (tCons (tVar 1) tNil)) (gName 3))
            (tAsg (tLst (tCons (tMake (He.ga K "Frame") (sp_Frame_init K) [] E0 (tCons (tVar 1) (tCons (tIf (tTest (tOp xIsN (tVar 3) (tC .non))) (tMeth (He.ga K "Disk") "ask_read" (sp_Disk_ask_read K) [] E0 (tFld K (tVar 0) "disk") (tCons (tVar 1) tNil)) (tFld K (tVar 3) "number")) tNil))) tNil)) (gName 2)))
            { nx := (tSeq (sFld K (tVar 0) (tOp rCat (tLc (iList K (tFld K (tVar 0) "frames")) (gName 4) (tTest (tOp rNe (tFld K (tVar 4) "spot") (tVar 1))) (tVar 4) [4]) (tVar 2)) "frames") (tRet (tOp (rIxL K) (tVar 2) (tC (.int 0))))) { nx := fun _ H' => Q .non H', rt := Q }, rt := Q } [some (.ref L.st), some (.int room), some (.ref p), v3, v4] H3 := by
        intro L3 H3 h3 e1 e2 e3 k3 w hw v3 v4
        obtain ⟨dx3, ho3⟩ := h3.ob
        obtain ⟨dq3, hq3⟩ := h3.q.ob
        obtain ⟨dd3, hd3⟩ := h3.d.ob
        rw [e1] at ho3
        have ed : (s.mid room).d = s.d := mid_d s room
        have rowm := mid_row s room
        have hwr := ok.wear
        -- the frame's number, then the frame
        have made : ∀ H4, Same H3 H4 → ∀ num : Int, num = (s.mid room).look room → ∀ (u : V) (Q2 : VK), (∀ x H5 H6, H4 x = none → Same H4 H5 → FraAt K H5 x ⟨room, num, false⟩ → ∀ g, H5 g = none → H6 = upd H5 g (.lst [.ref x]) → Q2 (.ref g) H6) →
            ∀ x dy, H4 x = none → H4 dy = none → dy ≠ x → sp_Frame_init K [.ref x, .int room, .int num] (upd (upd H4 dy (.own x)) x (.ins (He.ga K "Frame") dy [])) (fun v H5 => v = .non ∧ ([V.ref x].length ≤ sizeLine ∧ ∀ g, H5 g = none → Q2 (.ref g) (upd H5 g (.lst [.ref x])))) E0 := by
          intro H4 s4 num hnum u Q2 q2 x dy hx hdy hxy
          refine ⟨x, dy, room, num, rfl, upd_same, fun H5 r5 k5 => ⟨rfl, of_decide_eq_true rfl, fun g hg => q2 x H5 _ hx ?_ r5 g hg rfl⟩⟩
          have k6 := (Step.made (C := He.ga K "Frame") hx hdy).trans k5
          exact fun b o e => k6.kp b o e (by simp)
        have tail : ∀ (u : V) x H4 H5 H6, Same H3 H4 → H4 x = none → Same H4 H5 → FraAt K H5 x ⟨room, (s.mid room).look room, false⟩ → ∀ g, H5 g = none → H6 = upd H5 g (.lst [.ref x]) →
            (tSeq (sFld K (tVar 0) (tOp rCat (tLc (iList K (tFld K (tVar 0) "frames")) (gName 4) (tTest (tOp rNe (tFld K (tVar 4) "spot") (tVar 1))) (tVar 4) [4]) (tVar 2)) "frames") (tRet (tOp (rIxL K) (tVar 2) (tC (.int 0))))) { nx := fun _ H' => Q .non H', rt := Q } [some (.ref L.st), some (.int room), some (.ref g), some u, v4] H6 := by
          rintro u x H4 H5 H6 s4 hx s5 r5 g hg rfl
          have s6 : Same H3 (upd H5 g (.lst [.ref x])) := (s4.trans s5).trans (same_upd hg)
          have h6 := h3.same s6
          have hx3 : H3 x = none := s4.free hx
          have nx : x ∉ L3.foot := fun z => h3.has z hx3
          have len3 := h3.fs.len
          have nfm := mid_nfr s room
          have nd3 := own_nd h3
          simp only [List.nodup_cons, List.mem_cons, not_or] at nd3
          rw [← e1]
          refine use_tail pf h6 (gs := [x]) (frs := [⟨room, (s.mid room).look room, false⟩]) upd_same (.one (r5.same (same_upd hg))) (by simp) (by omega) (by simp) ?_ (fun b hb => ?_) fun L' H' a' h7 ha e4 e5 e6 k => ?_
          · rw [List.nodup_append]
            refine ⟨(keep2_sub _ L3.fs _).nodup nd3.2.2, by simp, fun y hy z hz w => ?_⟩
            rw [List.mem_singleton] at hz
            refine nx (fs_foot ?_)
            rw [← hz, ← w]
            exact (keep2_sub _ L3.fs _).subset hy
          · rw [List.mem_singleton] at hb
            exact .inr (hb ▸ nx)
          · refine q L' H' a' (eu ▸ h7) (ei ▸ ha) (e4.trans e1) (e5.trans e2) (e6.trans e3) ?_
            have kk : Step L3.foot (L3.foot ++ [x]) H3 (upd H5 g (.lst [.ref x])) := (Step.same L3.foot s6).sub fun b hb => by
              rcases List.mem_append.mp hb with z | z
              · exact .inl z
              · rw [List.mem_singleton] at z
                exact .inr (z ▸ hx3)
            exact k3.trans (kk.trans k)
        refine ⟨_, rfl, _, _, _, _, _, rfl, ho3, pf.cl_Store, pf.na_Store_waiting, rfl, L3.q.q, dq3, _, rfl, hq3, rfl, _, rfl, L3.q, (s.mid room).q, room, rfl, h3.q, by omega, fun hl H4 s4 => ?_, fun r a hl ra H4 s4 => ?_⟩
        · refine ⟨_, rfl, _, rfl, rfl, _, rfl, iteT ?_⟩
          have ho4 := s4 _ _ ho3
          have hd4 := s4 _ _ hd3
          refine ⟨_, rfl, _, _, _, _, _, rfl, ho4, pf.cl_Store, pf.na_Store_disk, rfl, L3.d.d, dd3, _, rfl, hd4, rfl, _, rfl, L3.d, (s.mid room).d, room, (s.mid room).look room, rfl, (h3.same s4).d, ed ▸ ok.dk hB, ed ▸ ok.left, h0, ?_, fun H5 s5 => ?_⟩
          · have e : (s.mid room).look room = ((s.mid room).d.shown[room.toNat]?).getD 0 := by
              unfold Sto.look
              rw [hl]
            rw [e]
            exact Dsk.look_at h0 (ed ▸ h1)
          · exact made H5 (s4.trans s5) _ rfl .non (fun v H7 => (tSeq (sFld K (tVar 0) (tOp rCat (tLc (iList K (tFld K (tVar 0) "frames")) (gName 4) (tTest (tOp rNe (tFld K (tVar 4) "spot") (tVar 1))) (tVar 4) [4]) (tVar 2)) "frames") (tRet (tOp (rIxL K) (tVar 2) (tC (.int 0))))) { nx := fun _ H' => Q .non H', rt := Q } [some (.ref L.st), some (.int room), some v, some V.non, v4] H7) fun x H6 H7 hx s6 r6 g hg e7 => tail .non x H5 H6 H7 (s4.trans s5) hx s6 r6 g hg e7
        · obtain ⟨n, hn⟩ := mine_w hl
          obtain ⟨dr, er⟩ := ra.same s4
          have hlk : (s.mid room).look room = n := by
            unfold Sto.look
            rw [hl]
            dsimp only
            rw [hn]
            rfl
          refine ⟨_, rfl, _, rfl, rfl, _, rfl, iteN rfl ?_⟩
          refine ⟨_, rfl, _, _, _, _, _, rfl, er, pf.cl_Request, pf.na_Request_number, rfl, ?_⟩
          rw [hn]
          exact made H4 s4 n hlk.symm (.ref a) (fun v H7 => (tSeq (sFld K (tVar 0) (tOp rCat (tLc (iList K (tFld K (tVar 0) "frames")) (gName 4) (tTest (tOp rNe (tFld K (tVar 4) "spot") (tVar 1))) (tVar 4) [4]) (tVar 2)) "frames") (tRet (tOp (rIxL K) (tVar 2) (tC (.int 0))))) { nx := fun _ H' => Q .non H', rt := Q } [some (.ref L.st), some (.int room), some v, some (V.ref a), v4] H7) fun x H6 H7 hx s6 r6 g hg e7 => tail (.ref a) x H4 H6 H7 s4 hx s6 (hlk ▸ r6) g hg e7
      refine ⟨_, rfl, _, _, _, _, _, rfl, ho2, pf.cl_Store, pf.na_Store_frames, rfl, _, _, rfl, .inl (SqL.of h2.lf), _, rfl, _, _, _, _, _, rfl, ho2, pf.cl_Store, pf.na_Store_most_frames, rfl, rfl, _, rfl, ?_⟩
      rw [List.length_map, len, rooms_bl2]
      cases hfull : decide ((s.frs.length : Int) = s.mf) with
      | false =>
        refine iteF (rest L _ ?_ rfl rfl rfl (Step.same L.foot s2) _ hv2 _ _)
        have : s.mid room = s := by
          unfold Sto.mid
          rw [hown, hfull]
          rfl
        rw [this]
        exact h2
      | true =>
        refine iteT ?_
        have hne : s.frs ≠ [] := fun z => by
          have := of_decide_eq_true hfull
          rw [z] at this
          simp at this
          omega
        refine ⟨_, rfl, L.st, dx, _, rfl, ho2, rfl, L, s, rfl, h2, hrow, by omega, hne, fun L3 H3 h3 e1 e2 e3 k3 => ?_⟩
        have : s.mid room = s.leave := by
          unfold Sto.mid
          rw [hown, hfull]
          rfl
        have npf : p ∉ L.foot := fun z => h.has z hp
        exact rest L3 H3 (this ▸ h3) e1 e2 e3 ((Step.same L.foot s2).trans k3) _ (k3.at hv2 npf) _ _
end SY

/-! ## Prog, part I: stores' states, reckoned: deeds, and what stays true -/
namespace SY
open PySem PySem.Spec PyProof.Rows L2 XB
def Sto.mark (s : Sto) (k : Nat) (num : Int) : Sto := match s.frs[k]? with
  | none => s
  | some f => { s with frs := s.frs.set k ⟨f.room, num, true⟩ }
def Sto.marked (s : Sto) (room num : Int) : Sto := (s.use room).mark (s.useIx room) num
def Sto.write (s : Sto) (room num : Int) : Sto :=
  if decide ((s.marked room num).md < (((s.marked room num).frs.filter (·.dirty)).length : Int)) = true then (s.marked room num).clean ((s.marked room num).frs.findIdx (·.dirty)) else s.marked room num
def Sto.val (s : Sto) (room : Int) : Int := (((s.use room).frs[s.useIx room]?).map (·.num)).getD 0
def Sto.roomAt (s : Sto) (i : Nat) : Int := ((s.frs[i]?).map (·.room)).getD 0
def Sto.turns (s : Sto) : List Nat := (List.range s.frs.length).mergeSort fun i j => decide (s.roomAt i ≤ s.roomAt j)
def Sto.wash1 (s : Sto) (i : Nat) : Sto := match s.frs[i]? with
  | none => s
  | some f => if f.dirty = true then s.clean i else s
def Sto.washed (s : Sto) : Sto := s.turns.foldl Sto.wash1 s
def Sto.order (s : Sto) : Sto := { s.washed with q := s.washed.q.put1 none }
def Dsk.take (d : Dsk) (r : Rq) : Dsk := match r.w with
  | none => d.barrier
  | some p => d.write p.1 p.2
def Sto.serve (s : Sto) : Sto := match s.q.row[s.q.pick]? with
  | none => s
  | some r => { s with q := s.q.served r, d := s.d.take r }
def Sto.cnt (s : Sto) : Int := ((s.q.row[s.q.pick]?).map (·.cnt)).getD 0
def drain : Nat → Sto → Sto
  | 0, s => s
  | n + 1, s => drain n s.serve
def cnts : Nat → Sto → List Int
  | 0, _ => []
  | n + 1, s => s.cnt :: cnts n s.serve
def Sto.drained (s : Sto) : Sto := drain s.q.row.length s
def Sto.sync (s : Sto) : Sto := { s.order.drained with d := s.order.drained.d.flush }
theorem frs_ok {s : Sto} {B : Nat} {frs : List Fra} (h : s.Ok B) (hs : ∀ f ∈ frs, ∃ g ∈ s.frs, f.room = g.room) (hl : (frs.length : Int) ≤ s.mf) : ({ s with frs := frs } : Sto).Ok B := by
  refine { h with fr := fun f hf => ?_, nf := hl }
  obtain ⟨g, hg, e⟩ := hs f hf
  rw [e]
  exact h.fr g hg
theorem put_ok {s : Sto} {B : Nat} {w : Option (Int × Int)} (h : s.Ok B) (hw : ∀ p, w = some p → 0 ≤ p.1 ∧ p.1 < s.d.sure.length) : ({ s with q := s.q.put1 w } : Sto).Ok (B + 1) := by
  refine { h with rq := ?_, inc := ?_, ctr := ?_, wear := ?_ }
  · intro r hr p hp
    simp only [Que.put1, List.mem_append, List.mem_singleton] at hr
    rcases hr with hr | rfl
    · exact h.rq r hr p hp
    · exact hw p hp
  · simp only [Que.put1]
    rw [List.pairwise_append]
    refine ⟨h.inc, by simp, fun a ha b hb => ?_⟩
    rw [List.mem_singleton] at hb
    subst hb
    exact h.ctr a ha
  · intro r hr
    simp only [Que.put1, List.mem_append, List.mem_singleton] at hr ⊢
    rcases hr with hr | rfl
    · have := h.ctr r hr
      omega
    · dsimp only
      omega
  · have := h.wear
    simp only [Que.put1, List.length_append, List.length_singleton]
    omega
theorem two_filters {α : Type} (p : α → Bool) : ∀ l : List α, (l.filter fun x => !p x).length + (l.filter p).length = l.length
  | [] => rfl
  | x :: l => by
    have := two_filters p l
    cases h : p x with
    | true =>
      rw [List.filter_cons_of_neg (by simp [h]), List.filter_cons_of_pos h, List.length_cons, List.length_cons]
      omega
    | false =>
      rw [List.filter_cons_of_pos (by simp [h]), List.filter_cons_of_neg (by simp [h]), List.length_cons, List.length_cons]
      omega
theorem clean_ok {s : Sto} {B : Nat} (h : s.Ok B) (i : Nat) : (s.clean i).Ok (B + 1) := by
  unfold Sto.clean
  cases e : s.frs[i]? with
  | none => exact h.mono (by omega)
  | some f =>
    have hm := List.mem_of_getElem? e
    refine frs_ok (s := { s with q := s.q.put1 (some (f.room, f.num)) }) (put_ok h ?_) ?_ ?_
    · rintro p hp
      cases hp
      exact h.fr f hm
    · intro g hg
      rcases List.mem_or_eq_of_mem_set hg with hg | rfl
      · exact ⟨g, hg, rfl⟩
      · exact ⟨f, hm, rfl⟩
    · rw [List.length_set]
      exact h.nf
theorem mem_others {s : Sto} {room : Int} {f : Fra} (h : f ∈ s.others room) : f ∈ s.frs := (List.mem_filter.mp h).1
theorem clean_room2 {s : Sto} {i : Nat} {f : Fra} (h : f ∈ (s.clean i).frs) : ∃ g ∈ s.frs, f.room = g.room := by
  unfold Sto.clean at h
  cases e : s.frs[i]? with
  | none =>
    rw [e] at h
    exact ⟨f, h, rfl⟩
  | some g =>
    rw [e] at h
    rcases List.mem_or_eq_of_mem_set h with h | rfl
    · exact ⟨f, h, rfl⟩
    · exact ⟨g, List.mem_of_getElem? e, rfl⟩
theorem others_lt {s : Sto} {f : Fra} (h : f ∈ s.frs) : (s.others f.room).length < s.frs.length := by
  unfold Sto.others
  refine Nat.lt_of_le_of_ne (List.length_filter_le _ _) fun z => ?_
  have := List.length_filter_eq_length_iff.mp z f h
  simp at this
theorem leave_ok {s : Sto} {B : Nat} (h : s.Ok B) : s.leave.Ok (B + 1) := by
  unfold Sto.leave
  split
  · rename_i c cs e
    refine (frs_ok h (fun f hf => ⟨f, mem_others hf, rfl⟩) ?_).mono (by omega)
    have := others_len s c.room
    have := h.nf
    omega
  · split
    · exact h.mono (by omega)
    · rename_i f fs e
      refine frs_ok (clean_ok h 0) (fun f hf => ⟨f, mem_others hf, rfl⟩) ?_
      have h1 := others_len (s.clean 0) f.room
      have h2 := (clean_ok h 0).nf
      omega
theorem leave_lt {s : Sto} (h : s.frs ≠ []) : s.leave.frs.length < s.frs.length := by
  unfold Sto.leave
  split
  · rename_i c cs e
    have hm : c ∈ s.frs.filter fun f => !f.dirty := by
      rw [e]
      simp
    exact others_lt (List.mem_filter.mp hm).1
  · split
    · contradiction
    · rename_i f fs e
      have h0 : s.frs[0]? = some f := by
        rw [e]
        rfl
      have hm : f.wash ∈ (s.clean 0).frs := by
        rw [clean_room h0]
        exact List.mem_of_getElem? (i := 0) (by rw [List.getElem?_set_self (by rw [e]; simp)])
      have := others_lt hm
      rw [clean_nfr] at this
      exact this
theorem mid_ok {s : Sto} {B : Nat} (h : s.Ok B) (room : Int) : (s.mid room).Ok (B + 1) := by
  unfold Sto.mid
  split
  · split
    · exact leave_ok h
    · exact h.mono (by omega)
  · exact h.mono (by omega)
theorem leave_mf (s : Sto) : s.leave.mf = s.mf ∧ s.leave.md = s.md ∧ s.leave.d = s.d := by
  unfold Sto.leave
  split
  · exact ⟨rfl, rfl, rfl⟩
  · split
    · exact ⟨rfl, rfl, rfl⟩
    · dsimp only
      unfold Sto.clean
      split <;> exact ⟨rfl, rfl, rfl⟩
theorem mid_mf (s : Sto) (room : Int) : (s.mid room).mf = s.mf ∧ (s.mid room).md = s.md ∧ (s.mid room).d = s.d := by
  unfold Sto.mid
  split
  · split
    · exact leave_mf s
    · exact ⟨rfl, rfl, rfl⟩
  · exact ⟨rfl, rfl, rfl⟩
theorem use_ok {s : Sto} {B : Nat} {room : Int} (h : s.Ok B) (h0 : 0 ≤ room) (h1 : room < s.d.sure.length) : (s.use room).Ok (B + 1) := by
  have hm := mid_ok h room
  obtain ⟨e1, e2, e3⟩ := mid_mf s room
  cases ho : (s.own room).isEmpty with
  | false =>
    rw [(use_own ho).1]
    refine (frs_ok h (fun f hf => ?_) ?_).mono (by omega)
    · rcases List.mem_append.mp hf with z | z
      · exact ⟨f, mem_others z, rfl⟩
      · exact ⟨f, (List.mem_filter.mp z).1, rfl⟩
    · have : (s.others room ++ s.own room).length = s.frs.length := by
        have := two_filters (fun f : Fra => decide (f.room = room)) s.frs
        rw [List.length_append]
        exact this
      rw [this]
      exact h.nf
  | true =>
    rw [(use_new ho).1]
    refine { hm with fr := fun f hf => ?_, nf := ?_ }
    · rcases List.mem_append.mp hf with z | z
      · exact hm.fr f (mem_others z)
      · rw [List.mem_singleton] at z
        subst z
        show _ ∧ _ < (((s.mid room).d.sure.length : Nat) : Int)
        rw [e3]
        exact ⟨h0, h1⟩
    · show (((s.mid room).others room ++ [_]).length : Int) ≤ (s.mid room).mf
      rw [e1, List.length_append, List.length_singleton]
      have hl := others_len (s.mid room) room
      have hn := h.nf
      have hmf := h.mf
      by_cases hf : (s.frs.length : Int) = s.mf
      · have : s.mid room = s.leave := by
          unfold Sto.mid
          rw [ho, decide_eq_true hf]
          rfl
        have hne : s.frs ≠ [] := fun z => by
          rw [z] at hf
          simp at hf
          omega
        have := leave_lt hne
        rw [‹s.mid room = s.leave›] at hl
        rw [‹s.mid room = s.leave›]
        omega
      · have : s.mid room = s := by
          unfold Sto.mid
          rw [ho, decide_eq_false hf]
          rfl
        rw [this] at hl ⊢
        omega
theorem mark_ok {s : Sto} {B : Nat} (h : s.Ok B) (k : Nat) (num : Int) : (s.mark k num).Ok B := by
  unfold Sto.mark
  cases e : s.frs[k]? with
  | none => exact h
  | some f =>
    refine frs_ok h (fun g hg => ?_) ?_
    · rcases List.mem_or_eq_of_mem_set hg with hg | rfl
      · exact ⟨g, hg, rfl⟩
      · exact ⟨f, List.mem_of_getElem? e, rfl⟩
    · rw [List.length_set]
      exact h.nf
theorem write_ok {s : Sto} {B : Nat} {room : Int} (h : s.Ok B) (h0 : 0 ≤ room) (h1 : room < s.d.sure.length) (num : Int) : (s.write room num).Ok (B + 2) := by
  have := mark_ok (use_ok h h0 h1) (s.useIx room) num
  unfold Sto.write
  split
  · exact clean_ok this _
  · exact Sto.Ok.mono this (by omega)
theorem wash1_ok {s : Sto} {B : Nat} (h : s.Ok B) (i : Nat) : (s.wash1 i).Ok (B + 1) := by
  unfold Sto.wash1
  split
  · exact h.mono (by omega)
  · split
    · exact clean_ok h i
    · exact h.mono (by omega)
theorem washed_ok : ∀ (l : List Nat) {s : Sto} {B : Nat}, s.Ok B → (l.foldl Sto.wash1 s).Ok (B + l.length)
  | [], s, B, h => h
  | i :: l, s, B, h => by
    have := washed_ok l (wash1_ok h i)
    rw [List.foldl_cons, List.length_cons]
    exact this.mono (by omega)
theorem turns_len (s : Sto) : s.turns.length = s.frs.length := by
  unfold Sto.turns
  rw [List.length_mergeSort, List.length_range]
theorem clean_d (s : Sto) (i : Nat) : (s.clean i).d = s.d ∧ (s.clean i).mf = s.mf ∧ (s.clean i).md = s.md := by
  unfold Sto.clean
  split <;> exact ⟨rfl, rfl, rfl⟩
theorem wash1_d (s : Sto) (i : Nat) : (s.wash1 i).d = s.d ∧ (s.wash1 i).frs.length = s.frs.length := by
  unfold Sto.wash1
  split
  · exact ⟨rfl, rfl⟩
  · split
    · exact ⟨(clean_d s i).1, clean_nfr s i⟩
    · exact ⟨rfl, rfl⟩
theorem washed_d : ∀ (l : List Nat) (s : Sto), (l.foldl Sto.wash1 s).d = s.d ∧ (l.foldl Sto.wash1 s).frs.length = s.frs.length
  | [], s => ⟨rfl, rfl⟩
  | i :: l, s => by
    have h1 := washed_d l (s.wash1 i)
    have h2 := wash1_d s i
    exact ⟨h1.1.trans h2.1, h1.2.trans h2.2⟩
theorem order_ok {s : Sto} {B : Nat} (h : s.Ok B) : s.order.Ok (B + 9) := by
  have h1 := washed_ok s.turns h
  rw [turns_len] at h1
  have := h.nf
  have := h.mf
  exact (put_ok h1 (fun p hp => by cases hp)).mono (by omega)
theorem order_ne (s : Sto) : s.order.q.row ≠ [] := by
  unfold Sto.order Que.put1
  simp
theorem addLast_flat {α : Type} : ∀ (ls : List (List α)) (x : α), ls ≠ [] → (addLast ls x).flatten.length = ls.flatten.length + 1 ∧ (addLast ls x).length = ls.length
  | [], _, h => absurd rfl h
  | [l], x, _ => by simp [addLast]
  | l :: l2 :: ls, x, _ => by
    have h := addLast_flat (l2 :: ls) x (by simp)
    have e : addLast (l :: l2 :: ls) x = l :: addLast (l2 :: ls) x := by
      unfold addLast
      simp
    rw [e]
    simp only [List.flatten_cons, List.length_append, List.length_cons] at h ⊢
    exact ⟨by omega, by omega⟩
theorem mem_addLast {α : Type} {ls : List (List α)} {x : α} {l : List α} {p : α} (h : l ∈ addLast ls x) (hp : p ∈ l) : (∃ l' ∈ ls, p ∈ l') ∨ p = x := by
  unfold addLast at h
  rcases List.mem_or_eq_of_mem_set h with h | rfl
  · exact .inl ⟨l, h, hp⟩
  · rcases List.mem_append.mp hp with z | z
    · cases e : ls.getLast? with
      | none =>
        rw [e] at z
        simp at z
      | some l' =>
        rw [e] at z
        exact .inl ⟨l', List.mem_of_getLast? e, z⟩
    · rw [List.mem_singleton] at z
      exact .inr z
theorem take_sure (d : Dsk) (r : Rq) : (d.take r).sure = d.sure ∧ (d.take r).left = d.left := by
  unfold Dsk.take
  split <;> exact ⟨rfl, rfl⟩
theorem filter_one {q : List Rq} {i : Nat} {r : Rq} (hp : q.Pairwise fun a b => a.cnt < b.cnt) (h : q[i]? = some r) : (q.filter fun o => !decide (o.cnt = r.cnt)).length + 1 = q.length := by
  induction q generalizing i with
  | nil => simp at h
  | cons x xs ih =>
    obtain ⟨h1, h2⟩ := List.pairwise_cons.mp hp
    cases i with
    | zero =>
      rw [List.getElem?_cons_zero] at h
      cases h
      rw [List.filter_cons_of_neg (by simp)]
      have : xs.filter (fun o => !decide (o.cnt = r.cnt)) = xs := by
        rw [List.filter_eq_self]
        intro a ha
        have := h1 a ha
        simp
        omega
      rw [this, List.length_cons]
    | succ i =>
      rw [List.getElem?_cons_succ] at h
      have hlt := h1 r (List.mem_of_getElem? h)
      rw [List.filter_cons_of_pos (by simp; omega), List.length_cons, List.length_cons, ih h2 h]
theorem argBest_le (c : Nat → Nat → Bool) : ∀ n, argBest c n ≤ n := by
  intro n
  induction n with
  | zero => exact Nat.le_of_eq rfl
  | succ n ih =>
    unfold argBest
    split <;> omega
theorem pick_lt {q : Que} (h : q.row ≠ []) : q.pick < q.row.length := by
  have hf := fr_le q
  have hl : 0 < q.row.length := List.length_pos_iff.mpr h
  unfold Que.pick
  split
  · exact hl
  · split
    · exact hl
    · split
      · exact hl
      · have := argBest_le (fun i j => kLt (q.key i) (q.key j)) (q.fr - 1)
        omega
theorem serve_eq {s : Sto} (h : s.q.row ≠ []) : ∃ r, s.q.row[s.q.pick]? = some r ∧ s.serve = { s with q := s.q.served r, d := s.d.take r } ∧ s.cnt = r.cnt := by
  have := pick_lt h
  refine ⟨s.q.row[s.q.pick], List.getElem?_eq_getElem this, ?_, ?_⟩
  · unfold Sto.serve
    rw [List.getElem?_eq_getElem this]
  · unfold Sto.cnt
    rw [List.getElem?_eq_getElem this]
    rfl
theorem serve_ok {s : Sto} {B : Nat} (h : s.Ok B) (hne : s.q.row ≠ []) : s.serve.Ok B ∧ s.serve.q.row.length + 1 = s.q.row.length := by
  obtain ⟨r, hr, e, _⟩ := serve_eq hne
  rw [e]
  have len : (s.q.served r).row.length + 1 = s.q.row.length := by
    unfold Que.served
    rw [List.length_map]
    exact filter_one h.inc hr
  have hm := List.mem_of_getElem? hr
  obtain ⟨e1, e2⟩ := take_sure s.d r
  have sub : ∀ o ∈ (s.q.served r).row, ∃ o' ∈ s.q.row, o.cnt = o'.cnt ∧ o.w = o'.w := by
    intro o ho
    unfold Que.served at ho
    obtain ⟨o', ho', rfl⟩ := List.mem_map.mp ho
    exact ⟨o', (List.mem_filter.mp ho').1, rfl, rfl⟩
  refine ⟨⟨?_, ?_, ?_, ?_, ?_, ?_, ?_, ?_, h.mf, h.md, h.nf, ?_⟩, len⟩
  · dsimp only
    rw [e1]
    exact h.size
  · dsimp only
    rw [e2]
    exact h.left
  · dsimp only
    rw [e1]
    unfold Dsk.take
    split
    · intro lot hl p hp
      unfold Dsk.barrier at hl
      simp only [List.mem_append, List.mem_singleton] at hl
      rcases hl with hl | rfl
      · exact h.drooms lot hl p hp
      · simp at hp
    · rename_i w hw
      intro lot hl p hp
      unfold Dsk.write at hl
      rcases mem_addLast hl hp with ⟨l, h1, h2⟩ | rfl
      · exact h.drooms l h1 p h2
      · exact h.rq r hm w hw
  · dsimp only
    unfold Dsk.take
    split
    · unfold Dsk.barrier
      simp
    · unfold Dsk.write addLast
      intro z
      have := congrArg List.length z
      simp only [List.length_set, List.length_nil] at this
      exact h.ne (List.length_eq_zero_iff.mp this)
  · dsimp only
    rw [e1]
    exact h.fr
  · dsimp only
    rw [e1]
    intro o ho p hp
    obtain ⟨o', h1, _, h2⟩ := sub o ho
    exact h.rq o' h1 p (h2 ▸ hp)
  · show (s.q.served r).row.Pairwise _
    unfold Que.served
    rw [List.pairwise_map]
    exact h.inc.filter _
  · intro o ho
    obtain ⟨o', h1, h2, _⟩ := sub o ho
    show o.cnt < s.q.put
    rw [h2]
    exact h.ctr o' h1
  · have := h.wear
    dsimp only
    unfold Dsk.take
    split
    · unfold Dsk.barrier
      simp only [List.flatten_append, List.length_append, List.length_singleton, List.flatten_cons, List.flatten_nil, List.append_nil, List.length_nil, Nat.add_zero]
      omega
    · unfold Dsk.write
      rename_i w hw
      have e := addLast_flat s.d.lots (w.1, w.2) h.ne
      dsimp only
      rw [e.1, e.2]
      omega
theorem drain_ok : ∀ (n : Nat) {s : Sto} {B : Nat}, s.Ok B → n ≤ s.q.row.length → (drain n s).Ok B ∧ (drain n s).q.row.length + n = s.q.row.length
  | 0, s, B, h, _ => ⟨h, rfl⟩
  | n + 1, s, B, h, hn => by
    obtain ⟨h1, h2⟩ := serve_ok h (fun z => by rw [z] at hn; simp at hn)
    obtain ⟨h3, h4⟩ := drain_ok n h1 (by omega)
    exact ⟨h3, by rw [drain]; omega⟩
theorem drained_ok {s : Sto} {B : Nat} (h : s.Ok B) : s.drained.Ok B ∧ s.drained.q.row = [] := by
  obtain ⟨h1, h2⟩ := drain_ok _ h (Nat.le_refl _)
  exact ⟨h1, List.length_eq_zero_iff.mp (by unfold Sto.drained; omega)⟩
theorem flush_ok {s : Sto} {B : Nat} (h : s.Ok B) : ({ s with d := s.d.flush } : Sto).Ok B := by
  have e : s.d.flush.sure.length = s.d.sure.length := s.d.shown_len
  refine ⟨?_, h.left, ?_, by simp [Dsk.flush], ?_, ?_, h.inc, h.ctr, h.mf, h.md, h.nf, ?_⟩
  · dsimp only
    rw [e]
    exact h.size
  · intro lot hl p hp
    simp only [Dsk.flush, List.mem_singleton] at hl
    subst hl
    simp at hp
  · dsimp only
    rw [e]
    exact h.fr
  · dsimp only
    rw [e]
    exact h.rq
  · have := h.wear
    have : 0 < s.d.lots.length := List.length_pos_iff.mpr h.ne
    show s.q.row.length + 0 + 1 ≤ B
    omega
theorem sync_ok {s : Sto} {B : Nat} (h : s.Ok B) : s.sync.Ok (B + 9) := flush_ok (drained_ok (order_ok h)).1
end SY

/-! ## Prog, part J: stores' deeds, walked -/
namespace SY
open PySem PySem.Spec PyProof.Rows L2 XB
theorem keep2_head {α β : Type} {p : β → Bool} : ∀ {as : List α} {ys : List β} {a : α} {l : List α}, as.length = ys.length → keep2 p as ys = a :: l → as[ys.findIdx p]? = some a ∧ ys.findIdx p < ys.length
  | [], [], a, l, _, h => by simp [keep2] at h
  | [], _ :: _, _, _, h, _ => by cases h
  | _ :: _, [], _, _, h, _ => by cases h
  | b :: as, y :: ys, a, l, hl, h => by
    unfold keep2 at h
    cases hp : p y with
    | true =>
      rw [if_pos hp] at h
      injection h with h1 h2
      subst h1
      rw [List.findIdx_cons, hp]
      exact ⟨rfl, by simp⟩
    | false =>
      rw [if_neg (by simp [hp])] at h
      obtain ⟨h1, h2⟩ := keep2_head (Nat.succ.inj hl) h
      rw [List.findIdx_cons, hp]
      refine ⟨?_, ?_⟩
      · show (b :: as)[ys.findIdx p + 1]? = some a
        rw [List.getElem?_cons_succ]
        exact h1
      · show ys.findIdx p + 1 < _
        rw [List.length_cons]
        omega
def sp_Store_read (K : PySem.W.Frag) : Sp := fun vs H Q _ => ∃ L s room B, vs = [.ref L.st, .int room] ∧ StoAt K H L s ∧ s.Ok B ∧ B ≤ 900000 ∧ 0 ≤ room ∧ room < s.d.sure.length ∧
  ∀ L' H', StoAt K H' L' (s.use room) → L'.st = L.st → L'.d = L.d → L'.q.q = L.q.q → Step L.foot L'.foot H H' → Q (.int (s.val room)) H'
def t_Store_read (K : PySem.W.Frag) : TS := (tSeq (tDrop (tMeth (He.ga K "Store") "check_room" (sp_Store_check_room K) [] E0 (tVar 0) (tCons (tVar 1) tNil)))
    (tRet (tFld K (tMeth (He.ga K "Store") "use" (sp_Store_use K) [] E0 (tVar 0) (tCons (tVar 1) tNil)) "number")))
theorem len_Store_read {K : PySem.W.Frag} (vs : List V) (H : Hp) (Q : VK) (E : XK) (h : sp_Store_read K vs H Q E) : vs.length = ["self", "room"].length := by
  unfold sp_Store_read at h
  repeat (first | (obtain ⟨e, _⟩ := h; rw [e]; done) | (obtain ⟨e, _⟩ := h; rw [e]; rfl; done) | obtain ⟨_, h⟩ := h)
theorem pure_Store_read {K : PySem.W.Frag} (pf : PF K) {vs : List V} {H : Hp} {Q : VK} {E : XK} (h : sp_Store_read K vs H Q E) : t_Store_read K { nx := fun _ H' => Q .non H', rt := Q } (start ["self", "room"] vs) H := by
  obtain ⟨L, s, room, B, rfl, h, ok, hB, h0, h1, q⟩ := h
  obtain ⟨dx, ho⟩ := h.ob
  refine ⟨_, rfl, L.st, dx, _, rfl, ho, rfl, _, rfl, L, s, room, rfl, h, h0, h1, ?_⟩
  refine ⟨_, rfl, L.st, dx, _, rfl, ho, rfl, _, rfl, L, s, room, B, rfl, h, ok, hB, h0, h1, fun L' H' a h3 ha e1 e2 e3 k => ?_⟩
  obtain ⟨f, hf, dy, e⟩ := h3.fs.get ha
  refine ⟨a, _, dy, _, _, rfl, e, pf.cl_Frame, pf.na_Frame_number, rfl, ?_⟩
  have : s.val room = f.num := by
    unfold Sto.val
    rw [hf]
    rfl
  rw [← this]
  exact q L' H' h3 e1 e2 e3 k
def sp_Store_write (K : PySem.W.Frag) : Sp := fun vs H Q _ => ∃ L s room num B, vs = [.ref L.st, .int room, .int num] ∧ StoAt K H L s ∧ s.Ok B ∧ B ≤ 900000 ∧ 0 ≤ room ∧ room < s.d.sure.length ∧
  ∀ L' H', StoAt K H' L' (s.write room num) → L'.st = L.st → L'.d = L.d → L'.q.q = L.q.q → Step L.foot L'.foot H H' → Q .non H'
def t_Store_write (K : PySem.W.Frag) : TS := (tSeq (tDrop (tMeth (He.ga K "Store") "check_room" (sp_Store_check_room K) [] E0 (tVar 0) (tCons (tVar 1) tNil)))
    (tSeq (tIfS (tNot (tB (tCall (sp_is_whole K) [] E0 (tCons (tVar 2) tNil)))) tNever tNext)
    (tSeq (tAsg (tMeth (He.ga K "Store") "use" (sp_Store_use K) [] E0 (tVar 0) (tCons (tVar 1) tNil)) (gName 3))
    (tSeq (sFld K (tVar 3) (tVar 2) "number")
    (tSeq (sFld K (tVar 3) (tC (.bl true)) "dirty")
    (tSeq (tAsg (tLc (iList K (tFld K (tVar 0) "frames")) (gName 5) (tB (tFld K (tVar 5) "dirty")) (tVar 5) [5]) (gName 4))
    (tIfS (tTest (tOp xGt (tCB (xLen K) (tCons (tVar 4) tNil)) (tFld K (tVar 0) "most_dirty"))) (tDrop (tMeth (He.ga K "Store") "clean" (sp_Store_clean K) [] E0 (tVar 0) (tCons (tOp (rIxL K) (tVar 4) (tC (.int 0))) tNil))) tNext)))))))
theorem len_Store_write {K : PySem.W.Frag} (vs : List V) (H : Hp) (Q : VK) (E : XK) (h : sp_Store_write K vs H Q E) : vs.length = ["self", "room", "number"].length := by
  unfold sp_Store_write at h
  repeat (first | (obtain ⟨e, _⟩ := h; rw [e]; done) | (obtain ⟨e, _⟩ := h; rw [e]; rfl; done) | obtain ⟨_, h⟩ := h)
theorem pure_Store_write {K : PySem.W.Frag} (pf : PF K) {vs : List V} {H : Hp} {Q : VK} {E : XK} (h : sp_Store_write K vs H Q E) : t_Store_write K { nx := fun _ H' => Q .non H', rt := Q } (start ["self", "room", "number", "frame", "dirty", "other"] vs) H := by
  obtain ⟨L, s, room, num, B, rfl, h, ok, hB, h0, h1, q⟩ := h
  obtain ⟨dx, ho⟩ := h.ob
  refine ⟨_, rfl, L.st, dx, _, rfl, ho, rfl, _, rfl, L, s, room, rfl, h, h0, h1, ?_⟩
  refine ⟨_, rfl, .int num, "int", true, false, rfl, .base (.int num), by decide +kernel, by decide +kernel, _, rfl, iteF ?_⟩
  refine ⟨_, rfl, L.st, dx, _, rfl, ho, rfl, _, rfl, L, s, room, B, rfl, h, ok, hB, h0, h1, fun L1 H1 a h3 ha e1 e2 e3 k => ?_⟩
  obtain ⟨f, hf, dy, e⟩ := h3.fs.get ha
  obtain ⟨h4, k4⟩ := h3.setFrame pf (dx := dy) (f' := { f with num := num }) ha hf
  have hf4 : ({ s.use room with frs := (s.use room).frs.set (s.useIx room) { f with num := num } } : Sto).frs[s.useIx room]? = some { f with num := num } := by
    show ((s.use room).frs.set _ _)[_]? = _
    rw [List.getElem?_set_self (List.getElem?_eq_some_iff.mp hf).1]
  obtain ⟨h5, k5⟩ := h4.setFrame pf (dx := dy) (f' := ⟨f.room, num, true⟩) ha hf4
  have em : ({ ({ s.use room with frs := (s.use room).frs.set (s.useIx room) { f with num := num } } : Sto) with frs := ((s.use room).frs.set (s.useIx room) { f with num := num }).set (s.useIx room) ⟨f.room, num, true⟩ } : Sto) = s.marked room num := by
    unfold Sto.marked Sto.mark
    rw [hf]
    dsimp only
    rw [List.set_set]
  rw [em] at h5
  refine ⟨_, rfl, _, rfl, a, _, dy, _, rfl, e, pf.cl_Frame, pf.na_Frame_number, of_decide_eq_true rfl, ?_⟩
  refine ⟨_, rfl, a, _, dy, _, rfl, upd_same, pf.cl_Frame, pf.na_Frame_dirty, of_decide_eq_true rfl, ?_⟩
  have k6 := (k.trans k4).trans k5
  obtain ⟨dx5, ho5⟩ := h5.ob
  rw [e1] at ho5
  have len5 := h5.fs.len
  have okm := mark_ok (use_ok ok h0 h1) (s.useIx room) num
  have okm : (s.marked room num).Ok (B + 1) := okm
  have hnf := okm.nf
  have hmf := okm.mf
  refine ⟨_, rfl, _, _, _, _, _, rfl, ho5, pf.cl_Store, pf.na_Store_frames, rfl, _, rfl, ⟨_, SqL.of h5.lf⟩, ?_⟩
  refine comp_keep (fun f : Fra => f.dirty) h5.fs (SqL.of h5.lf) (by omega) ?_ ?_ ?_
  · exact of_decide_eq_true rfl
  · rintro b y hb ⟨dz, e⟩ H6 s6 R rr
    have e6 := s6 _ _ e
    exact ⟨_, rfl, _, _, _, _, _, rfl, e6, pf.cl_Frame, pf.na_Frame_dirty, rfl, _, rfl, rr H6 (Same.refl H6)⟩
  · intro p H6 hp s6 hv
    have kA := keep2_all (fun f : Fra => f.dirty) h5.fs
    have h6 := h5.same s6
    have ho6 := s6 _ _ ho5
    have k7 := k6.seq s6
    refine ⟨_, rfl, _, _, rfl, .inl (SqL.of hv), _, rfl, _, _, _, _, _, rfl, ho6, pf.cl_Store, pf.na_Store_most_dirty, rfl, _, _, rfl, rfl, _, rfl, ?_⟩
    rw [List.length_map, kA.len]
    have ew : s.write room num = if decide ((s.marked room num).md < (((s.marked room num).frs.filter (·.dirty)).length : Int)) = true then (s.marked room num).clean ((s.marked room num).frs.findIdx (·.dirty)) else s.marked room num := rfl
    cases hc : decide ((s.marked room num).md < (((s.marked room num).frs.filter (·.dirty)).length : Int)) with
    | false =>
      refine iteF ?_
      rw [hc, if_neg Bool.false_ne_true] at ew
      exact q L1 _ (ew ▸ h6) e1 e2 e3 k7
    | true =>
      refine iteT ?_
      rw [hc, if_pos rfl] at ew
      have hgt := of_decide_eq_true hc
      have hmd := okm.md
      obtain ⟨b, l, hk⟩ : ∃ b l, keep2 (fun f : Fra => f.dirty) L1.fs (s.marked room num).frs = b :: l := by
        cases e : keep2 (fun f : Fra => f.dirty) L1.fs (s.marked room num).frs with
        | nil =>
          have := kA.len
          rw [e, List.length_nil] at this
          omega
        | cons b l => exact ⟨b, l, rfl⟩
      obtain ⟨hi, hlt⟩ := keep2_head len5 hk
      refine ⟨_, rfl, L1.st, dx5, _, by rw [e1], by rw [e1]; exact ho6, rfl, _, rfl, p, _, 0, .ref b, rfl, rfl, SqL.of hv, atI_of (j := 0) ?_, ?_⟩
      · rw [List.getElem?_map, hk]
        rfl
      refine ⟨L1, s.marked room num, (s.marked room num).frs.findIdx (·.dirty), b, (s.marked room num).frs[(s.marked room num).frs.findIdx (·.dirty)], by rw [e1]; rfl, h6, okm.row (by omega), hi, List.getElem?_eq_getElem hlt, fun L' H' h7 a1 a2 a3 a4 a5 k8 => ?_⟩
      exact q L' H' (ew ▸ h7) (a1.trans e1) (a2.trans e2) (a5.trans e3) (k7.trans k8)
end SY

/-! ## Prog, part K: orders, serving, looks -/
namespace SY
open PySem PySem.Spec PyProof.Rows L2 XB
def ksOf (H : Hp) (a : Addr) : Int := match H a with
  | some (.ins _ _ fs) => match fs.lookup ("spot" : Str) with
    | some (.int i) => i
    | _ => 0
  | _ => 0
theorem ks_fra {K : PySem.W.Frag} {H : Hp} {a : Addr} {f : Fra} (h : FraAt K H a f) : ksOf H a = f.room := by
  obtain ⟨dx, e⟩ := h
  unfold ksOf
  rw [e]
  rfl
theorem sorted_refs {K : PySem.W.Frag} {H : Hp} {fs : List Addr} {s : Sto} (h : All2 (FraAt K H) fs s.frs) :
    fs.mergeSort (fun a b => decide (ksOf H a ≤ ksOf H b)) = s.turns.map fun i => (fs[i]?).getD 0 := by
  unfold Sto.turns
  have e : fs = (List.range s.frs.length).map fun i => (fs[i]?).getD 0 := by
    refine List.ext_getElem? fun i => ?_
    rw [List.getElem?_map, ← h.len]
    by_cases hi : i < fs.length
    · rw [List.getElem?_range hi, List.getElem?_eq_getElem hi]
      simp [hi]
    · rw [List.getElem?_eq_none (by omega), List.getElem?_eq_none (by rw [List.length_range]; omega)]
      rfl
  rw [List.map_mergeSort (s := fun a b => decide (ksOf H a ≤ ksOf H b)), ← e]
  intro i hi j hj
  have kk : ∀ i, i ∈ List.range s.frs.length → ksOf H ((fs[i]?).getD 0) = s.roomAt i := by
    intro i hi
    have hi : i < s.frs.length := List.mem_range.mp hi
    obtain ⟨a, ha, r⟩ := h.get2 (List.getElem?_eq_getElem hi)
    rw [ha]
    unfold Sto.roomAt
    rw [List.getElem?_eq_getElem hi]
    exact ks_fra r
  rw [kk i hi, kk j hj]
theorem wash1_no {s : Sto} {i : Nat} {f : Fra} (h : s.frs[i]? = some f) (hd : f.dirty = false) : s.wash1 i = s := by
  unfold Sto.wash1
  rw [h]
  dsimp only
  rw [hd, if_neg Bool.false_ne_true]
theorem wash1_yes {s : Sto} {i : Nat} {f : Fra} (h : s.frs[i]? = some f) (hd : f.dirty = true) : s.wash1 i = s.clean i := by
  unfold Sto.wash1
  rw [h]
  dsimp only
  rw [hd, if_pos rfl]
def sp_spot_of (K : PySem.W.Frag) : Sp := fun vs H Q _ => ∃ a f, vs = [.ref a] ∧ FraAt K H a f ∧ Q (.int f.room) H
def t_spot_of (K : PySem.W.Frag) : TS := (tRet (tFld K (tVar 0) "spot"))
theorem len_spot_of {K : PySem.W.Frag} (vs : List V) (H : Hp) (Q : VK) (E : XK) (h : sp_spot_of K vs H Q E) : vs.length = ["frame"].length := by
  unfold sp_spot_of at h
  repeat (first | (obtain ⟨e, _⟩ := h; rw [e]; done) | (obtain ⟨e, _⟩ := h; rw [e]; rfl; done) | obtain ⟨_, h⟩ := h)
theorem pure_spot_of {K : PySem.W.Frag} (pf : PF K) {vs : List V} {H : Hp} {Q : VK} {E : XK} (h : sp_spot_of K vs H Q E) : t_spot_of K { nx := fun _ H' => Q .non H', rt := Q } (start ["frame"] vs) H := by
  obtain ⟨a, f, rfl, ⟨dx, e⟩, q⟩ := h
  exact ⟨_, rfl, _, _, _, _, _, rfl, e, pf.cl_Frame, pf.na_Frame_spot, rfl, q⟩
def sp_Store_order (K : PySem.W.Frag) : Sp := fun vs H Q _ => ∃ L s B, vs = [.ref L.st] ∧ StoAt K H L s ∧ s.Ok B ∧ B ≤ 900000 ∧
  ∀ L' H', StoAt K H' L' s.order → L'.st = L.st → L'.d = L.d → L'.q.q = L.q.q → Step L.foot L'.foot H H' → Q .non H'
def t_Store_order (K : PySem.W.Frag) : TS := (tSeq (tFor (iList K (tCKw (rSortKey K (He.ga K "spot_of") (He.ga K "Frame") "spot") (tCons (tFld K (tVar 0) "frames") tNil) (tCons (tC (.ref (He.ga K "spot_of"))) tNil))) (gName 1) (tIfS (tB (tFld K (tVar 1) "dirty")) (tDrop (tMeth (He.ga K "Store") "clean" (sp_Store_clean K) [] E0 (tVar 0) (tCons (tVar 1) tNil))) tNext))
    (tDrop (tMeth (He.ga K "Queue") "put" (sp_Queue_put K) [] E0 (tFld K (tVar 0) "waiting") (tCons (tC .non) (tCons (tC .non) tNil)))))
theorem len_Store_order {K : PySem.W.Frag} (vs : List V) (H : Hp) (Q : VK) (E : XK) (h : sp_Store_order K vs H Q E) : vs.length = ["self"].length := by
  unfold sp_Store_order at h
  repeat (first | (obtain ⟨e, _⟩ := h; rw [e]; done) | (obtain ⟨e, _⟩ := h; rw [e]; rfl; done) | obtain ⟨_, h⟩ := h)
theorem pure_Store_order {K : PySem.W.Frag} (pf : PF K) {vs : List V} {H : Hp} {Q : VK} {E : XK} (h : sp_Store_order K vs H Q E) : t_Store_order K { nx := fun _ H' => Q .non H', rt := Q } (start ["self", "frame"] vs) H := by
  obtain ⟨L, s, B, rfl, h, ok, hB, q⟩ := h
  obtain ⟨dx, ho⟩ := h.ob
  have len := h.fs.len
  have hnf := ok.nf
  have hmf := ok.mf
  have hlen8 : s.turns.length ≤ 8 := by
    rw [turns_len]
    omega
  refine ⟨_, rfl, _, _, _, _, _, rfl, ho, pf.cl_Store, pf.na_Store_frames, rfl, L.lf, L.fs, ksOf H, rfl, rfl, SqL.of h.lf, fun x hx => ?_, fun p hp => ?_⟩
  · obtain ⟨f, _, r⟩ := h.fs.mem hx
    have := ks_fra r
    obtain ⟨dy, e⟩ := r
    refine ⟨dy, _, e, ?_⟩
    rw [this]
    rfl
  rw [sorted_refs h.fs]
  have s1 := same_upd (o := .lst ((s.turns.map fun i => (L.fs[i]?).getD 0).map V.ref)) hp
  have h1 := h.same s1
  have npf : p ∉ L.foot := fun z => h.has z hp
  refine ⟨p, rfl, ⟨_, SqL.of upd_same⟩, ?_⟩
  refine for_list (xs := (s.turns.map fun i => (L.fs[i]?).getD 0).map V.ref) (fun n σ H2 => ∃ L2, StoAt K H2 L2 ((s.turns.take n).foldl Sto.wash1 s) ∧ L2.st = L.st ∧ L2.d = L.d ∧ L2.q.q = L.q.q ∧ L2.fs = L.fs ∧ Step L.foot L2.foot (upd H p (.lst ((s.turns.map fun i => (L.fs[i]?).getD 0).map V.ref))) H2 ∧ ∃ v1, σ = [some (.ref L.st), v1])
    ⟨L, h1, rfl, rfl, rfl, rfl, Step.refl _ _, _, rfl⟩ (fun n σ H2 _ h2 => ?_) ?_ ?_
  · obtain ⟨L2, _, _, _, _, _, k, _⟩ := h2
    exact SqL.of (k.at upd_same npf)
  · rintro n x σ H2 hx ⟨L2, h2, e1, e2, e3, e4, k, v1, rfl⟩
    rw [List.map_map, List.getElem?_map] at hx
    obtain ⟨i, hi, rfl⟩ := Option.map_eq_some_iff.mp hx
    have hir : i < s.frs.length := by
      have := List.mem_of_getElem? hi
      unfold Sto.turns at this
      rw [List.mem_mergeSort] at this
      exact List.mem_range.mp this
    have hn := (List.getElem?_eq_some_iff.mp hi).1
    have wd := washed_d (s.turns.take n) s
    have wok := washed_ok (s.turns.take n) ok
    have htl : (s.turns.take n).length ≤ 8 := by
      rw [List.length_take]
      omega
    obtain ⟨f, hf⟩ : ∃ f, ((s.turns.take n).foldl Sto.wash1 s).frs[i]? = some f := ⟨_, List.getElem?_eq_getElem (by rw [wd.2]; exact hir)⟩
    obtain ⟨a, ha, dy, e⟩ := h2.fs.get2 hf
    have ha0 : (L.fs[i]?).getD 0 = a := by
      rw [← e4, ha]
      rfl
    have fold : (s.turns.take (n + 1)).foldl Sto.wash1 s = ((s.turns.take n).foldl Sto.wash1 s).wash1 i := by
      rw [take_one hi, List.foldl_append]
      rfl
    dsimp only [Function.comp]
    rw [ha0]
    refine ⟨_, rfl, _, _, _, _, _, rfl, e, pf.cl_Frame, pf.na_Frame_dirty, rfl, _, rfl, ?_⟩
    cases hd : f.dirty with
    | false =>
      refine iteF ⟨L2, ?_, e1, e2, e3, e4, k, _, rfl⟩
      rw [fold, wash1_no hf hd]
      exact h2
    | true =>
      obtain ⟨dx2, ho2⟩ := h2.ob
      rw [e1] at ho2
      refine iteT ⟨_, rfl, L.st, dx2, _, rfl, ho2, rfl, _, rfl, L2, _, i, a, f, by rw [e1]; rfl, h2, wok.row (by omega), ha, hf, fun L3 H3 h3 a1 a2 a3 a4 a5 k3 => ?_⟩
      refine ⟨L3, ?_, a1.trans e1, a2.trans e2, a5.trans e3, a4.trans e4, k.trans k3, _, rfl⟩
      rw [fold, wash1_yes hf hd]
      exact h3
  · rintro σ H2 ⟨L2, h2, e1, e2, e3, e4, k, v1, rfl⟩
    rw [List.length_map, List.length_map, List.take_length] at h2
    obtain ⟨dx2, ho2⟩ := h2.ob
    obtain ⟨dq2, hq2⟩ := h2.q.ob
    rw [e1] at ho2
    have wok := washed_ok s.turns ok
    refine ⟨_, rfl, _, _, _, _, _, rfl, ho2, pf.cl_Store, pf.na_Store_waiting, rfl, L2.q.q, dq2, _, rfl, hq2, rfl, L2.q, _, none, rfl, h2.q, wok.row (by omega), fun D H3 hD hDq k3 => ?_⟩
    obtain ⟨h3, k4⟩ := h2.withQue k3 hD hDq
    exact q { L2 with q := D } H3 h3 e1 e2 (hDq.trans e3) (((Step.same L.foot s1).trans k).trans k4)
def sp_Store_serve (K : PySem.W.Frag) : Sp := fun vs H Q _ => ∃ L s B, vs = [.ref L.st] ∧ StoAt K H L s ∧ s.Ok B ∧ B ≤ 1000000 ∧ s.q.row ≠ [] ∧ s.d.Ok ∧
  ∀ L' H', StoAt K H' L' s.serve → L'.st = L.st → L'.d.d = L.d.d → L'.q.q = L.q.q → Step L.foot L'.foot H H' → Q (.int s.cnt) H'
def t_Store_serve (K : PySem.W.Frag) : TS := (tSeq (tAsg (tMeth (He.ga K "Queue") "choice" (sp_Queue_choice K) [] E0 (tFld K (tVar 0) "waiting") tNil) (gName 1))
    (tSeq (tIfS (tB (tMeth (He.ga K "Request") "is_write" (sp_Request_is_write K) [] E0 (tVar 1) tNil)) (tDrop (tMeth (He.ga K "Disk") "ask_write" (sp_Disk_ask_write K) [] E0 (tFld K (tVar 0) "disk") (tCons (tFld K (tVar 1) "spot") (tCons (tFld K (tVar 1) "number") tNil)))) (tDrop (tMeth (He.ga K "Disk") "ask_barrier" (sp_Disk_ask_barrier K) [] E0 (tFld K (tVar 0) "disk") tNil)))
    (tSeq (tDrop (tMeth (He.ga K "Queue") "served" (sp_Queue_served K) [] E0 (tFld K (tVar 0) "waiting") (tCons (tVar 1) tNil)))
    (tRet (tFld K (tVar 1) "count")))))
theorem len_Store_serve {K : PySem.W.Frag} (vs : List V) (H : Hp) (Q : VK) (E : XK) (h : sp_Store_serve K vs H Q E) : vs.length = ["self"].length := by
  unfold sp_Store_serve at h
  repeat (first | (obtain ⟨e, _⟩ := h; rw [e]; done) | (obtain ⟨e, _⟩ := h; rw [e]; rfl; done) | obtain ⟨_, h⟩ := h)
theorem pure_Store_serve {K : PySem.W.Frag} (pf : PF K) {vs : List V} {H : Hp} {Q : VK} {E : XK} (h : sp_Store_serve K vs H Q E) : t_Store_serve K { nx := fun _ H' => Q .non H', rt := Q } (start ["self", "request"] vs) H := by
  obtain ⟨L, s, B, rfl, h, ok, hB, hne, dok, q⟩ := h
  obtain ⟨dx, ho⟩ := h.ob
  obtain ⟨dq, hq⟩ := h.q.ob
  obtain ⟨r, hr, es, ec⟩ := serve_eq hne
  have hrow := ok.row hB
  refine ⟨_, rfl, _, _, _, _, _, rfl, ho, pf.cl_Store, pf.na_Store_waiting, rfl, L.q.q, dq, _, rfl, hq, rfl, L.q, s.q, rfl, h.q, hrow, hne, fun a r' H1 ha hr' ra s1 => ?_⟩
  rw [hr] at hr'
  cases hr'
  have h1 := h.same s1
  obtain ⟨dx1, ho1⟩ := h1.ob
  obtain ⟨dd1, hd1⟩ := h1.d.ob
  obtain ⟨dr, er⟩ := ra.same s1
  -- behind the disk's turn
  have tail : ∀ D H2, DiskAt K H2 D (s.d.take r) → D.d = L.d.d → Step L.d.foot D.foot H1 H2 →
      (tSeq (tDrop (tMeth (He.ga K "Queue") "served" (sp_Queue_served K) [] E0 (tFld K (tVar 0) "waiting") (tCons (tVar 1) tNil))) (tRet (tFld K (tVar 1) "count"))) { nx := fun _ H' => Q .non H', rt := Q } [some (.ref L.st), some (.ref a)] H2 := by
    intro D H2 hD hDd k
    obtain ⟨h2, k2⟩ := h1.withDisk k hD hDd
    obtain ⟨dx2, ho2⟩ := h2.ob
    obtain ⟨dq2, hq2⟩ := h2.q.ob
    obtain ⟨a', ha', ra'⟩ := h2.q.rs.get2 hr
    rw [show a' = a from Option.some.inj (ha'.symm.trans ha)] at ra'
    refine ⟨_, rfl, _, _, _, _, _, rfl, ho2, pf.cl_Store, pf.na_Store_waiting, rfl, L.q.q, dq2, _, rfl, hq2, rfl, _, rfl, L.q, s.q, a, r, rfl, h2.q, hrow, ra', fun D3 H3 hD3 hq3 k3 r3 => ?_⟩
    obtain ⟨h3, k4⟩ := h2.withQue k3 hD3 hq3
    obtain ⟨dr3, er3⟩ := r3
    refine ⟨_, rfl, _, _, _, _, _, rfl, er3, pf.cl_Request, pf.na_Request_count, rfl, ?_⟩
    rw [← ec]
    exact q { L with q := D3, d := D } H3 (es ▸ h3) rfl hDd hq3 (((Step.same L.foot s1).trans k2).trans k4)
  refine ⟨_, rfl, a, dr, _, rfl, er, rfl, a, r, rfl, ⟨dr, er⟩, _, rfl, ?_⟩
  obtain ⟨c, w, sn⟩ := r
  cases w with
  | none =>
    refine iteF ⟨_, rfl, _, _, _, _, _, rfl, ho1, pf.cl_Store, pf.na_Store_disk, rfl, L.d.d, dd1, _, rfl, hd1, rfl, L.d, s.d, rfl, h1.d, dok, ok.left, fun D H2 hD hDd k => tail D H2 hD hDd k⟩
  | some p =>
    refine iteT ⟨_, rfl, _, _, _, _, _, rfl, ho1, pf.cl_Store, pf.na_Store_disk, rfl, L.d.d, dd1, _, rfl, hd1, rfl, _, rfl, _, _, _, _, _, rfl, er, pf.cl_Request, pf.na_Request_spot, rfl, _, rfl, _, _, _, _, _, rfl, er, pf.cl_Request, pf.na_Request_number, rfl, L.d, s.d, p.1, p.2, rfl, h1.d, dok, ok.left, fun D H2 hD hDd k => tail D H2 hD hDd k⟩
def sp_Store_sync (K : PySem.W.Frag) : Sp := fun vs H Q _ => ∃ L s B, vs = [.ref L.st] ∧ StoAt K H L s ∧ s.Ok B ∧ B ≤ 800000 ∧
  ∀ L' H', StoAt K H' L' s.sync → L'.st = L.st → L'.d.d = L.d.d → L'.q.q = L.q.q → Step L.foot L'.foot H H' → Q .non H'
def t_Store_sync (K : PySem.W.Frag) : TS := (tSeq (tDrop (tMeth (He.ga K "Store") "order" (sp_Store_order K) [] E0 (tVar 0) tNil))
    (tSeq (tWhile (tTest (tOp (rNeE K) (tFld K (tFld K (tVar 0) "waiting") "row") (tLst tNil))) (tDrop (tMeth (He.ga K "Store") "serve" (sp_Store_serve K) [] E0 (tVar 0) tNil)))
    (tDrop (tMeth (He.ga K "Disk") "ask_flush" (sp_Disk_ask_flush K) [] E0 (tFld K (tVar 0) "disk") tNil))))
theorem len_Store_sync {K : PySem.W.Frag} (vs : List V) (H : Hp) (Q : VK) (E : XK) (h : sp_Store_sync K vs H Q E) : vs.length = ["self"].length := by
  unfold sp_Store_sync at h
  repeat (first | (obtain ⟨e, _⟩ := h; rw [e]; done) | (obtain ⟨e, _⟩ := h; rw [e]; rfl; done) | obtain ⟨_, h⟩ := h)
theorem pure_Store_sync {K : PySem.W.Frag} (pf : PF K) {vs : List V} {H : Hp} {Q : VK} {E : XK} (h : sp_Store_sync K vs H Q E) : t_Store_sync K { nx := fun _ H' => Q .non H', rt := Q } (start ["self"] vs) H := by
  obtain ⟨L, s, B, rfl, h, ok, hB, q⟩ := h
  obtain ⟨dx, ho⟩ := h.ob
  refine ⟨_, rfl, L.st, dx, _, rfl, ho, rfl, L, s, B, rfl, h, ok, by omega, fun L1 H1 h1 e1 e2 e3 k1 => ?_⟩
  refine ⟨fun m σ H2 => σ = [some (.ref L.st)] ∧ ∃ L2 t, StoAt K H2 L2 t ∧ t.Ok (B + 9) ∧ t.drained = s.order.drained ∧ m = t.q.row.length ∧ L2.st = L.st ∧ L2.d.d = L.d.d ∧ L2.q.q = L.q.q ∧ Step L.foot L2.foot H H2,
    ⟨_, rfl, L1, s.order, h1, order_ok ok, rfl, rfl, e1, by rw [e2], e3, k1⟩, ?_⟩
  rintro m σ H2 ⟨rfl, L2, t, h2, okt, ed, rfl, a1, a2, a3, k2⟩
  obtain ⟨dx2, ho2⟩ := h2.ob
  obtain ⟨dq2, hq2⟩ := h2.q.ob
  rw [a1] at ho2
  refine ⟨_, rfl, _, _, _, _, _, rfl, ho2, pf.cl_Store, pf.na_Store_waiting, rfl, _, _, _, _, _, rfl, hq2, pf.cl_Queue, pf.na_Queue_row, rfl, of_decide_eq_true rfl, fun c hc => ⟨L2.q.lr, c, _, rfl, rfl, SqL.of (same_upd hc _ _ h2.q.lr), SqL.of upd_same, _, rfl, ?_⟩⟩
  have s3 := same_upd (o := .lst []) hc
  have h3 := h2.same s3
  have ho3 := s3 _ _ ho2
  cases hrow : t.q.row with
  | nil =>
    have : L2.q.rs = [] := h2.q.rs.nil_iff.mpr hrow
    rw [this]
    refine iteF ?_
    have et : t = s.order.drained := by
      rw [← ed]
      unfold Sto.drained
      rw [hrow]
      rfl
    subst et
    obtain ⟨dd3, hd3⟩ := h3.d.ob
    refine ⟨_, rfl, _, _, _, _, _, rfl, ho3, pf.cl_Store, pf.na_Store_disk, rfl, L2.d.d, dd3, _, rfl, hd3, rfl, L2.d, _, rfl, h3.d, okt.dk (by omega), okt.left, fun D H4 hD hDd k4 => ?_⟩
    obtain ⟨h4, k5⟩ := h3.withDisk k4 hD hDd
    exact q { L2 with d := D } H4 h4 a1 (hDd.trans a2) a3 ((k2.seq s3).trans k5)
  | cons x xs =>
    have hne : t.q.row ≠ [] := by
      rw [hrow]
      simp
    obtain ⟨y, ys, hy⟩ : ∃ y ys, L2.q.rs = y :: ys := by
      cases e : L2.q.rs with
      | nil => exact absurd (h2.q.rs.nil_iff.mp e) hne
      | cons y ys => exact ⟨y, ys, rfl⟩
    rw [hy]
    obtain ⟨ok4, ln⟩ := serve_ok okt hne
    refine iteT ⟨fun σ' H' => σ' = [some (.ref L.st)] ∧ ∃ L4, StoAt K H' L4 t.serve ∧ L4.st = L.st ∧ L4.d.d = L.d.d ∧ L4.q.q = L.q.q ∧ Step L.foot L4.foot H H', ?_, ?_⟩
    · rintro σ' H' ⟨rfl, L4, h4, b1, b2, b3, k4⟩
      refine ⟨t.serve.q.row.length, by rw [hrow] at ln; rw [List.length_cons] at ln ⊢; omega, rfl, L4, t.serve, h4, ok4, ?_, rfl, b1, b2, b3, k4⟩
      rw [← ed]
      unfold Sto.drained
      rw [← ln]
      rfl
    · refine ⟨_, rfl, L.st, dx2, _, rfl, ho3, rfl, L2, t, B + 9, by rw [a1]; rfl, h3, okt, by omega, hne, okt.dk (by omega), fun L4 H4 h4 b1 b2 b3 k4 => ?_⟩
      exact ⟨rfl, L4, h4, b1.trans a1, b2.trans a2, b3.trans a3, (k2.seq s3).trans k4⟩
theorem cnts_step : ∀ (n : Nat) (s : Sto), cnts (n + 1) s = cnts n s ++ [(drain n s).cnt]
  | 0, s => rfl
  | n + 1, s => by
    rw [cnts, cnts_step n s.serve]
    rfl
theorem drain_step : ∀ (n : Nat) (s : Sto), drain (n + 1) s = (drain n s).serve
  | 0, s => rfl
  | n + 1, s => by
    rw [drain, drain_step n s.serve]
    rfl
theorem cnts_len : ∀ (n : Nat) (s : Sto), (cnts n s).length = n
  | 0, s => rfl
  | n + 1, s => by rw [cnts, List.length_cons, cnts_len n]
def sp_Store_idle (K : PySem.W.Frag) : Sp := fun vs H Q _ => ∃ L s B m, vs = [.ref L.st, .int (m : Nat)] ∧ StoAt K H L s ∧ s.Ok B ∧ B ≤ 900000 ∧ m ≤ 999 ∧
  ∀ L' H' p, StoAt K H' L' (drain (min m s.q.row.length) s) → L'.st = L.st → L'.d.d = L.d.d → L'.q.q = L.q.q → Step L.foot L'.foot H H' → H p = none → H' p = some (.lst ((cnts (min m s.q.row.length) s).map V.int)) → p ∉ L'.foot → Q (.ref p) H'
def t_Store_idle (K : PySem.W.Frag) : TS := (tSeq (tIfS (tNot (tB (tCall (sp_within K) [] E0 (tCons (tVar 1) (tCons (tC (.int 0)) (tCons (tC (.int 999)) tNil)))))) tNever tNext)
    (tRet (tLc (iRng1 (tCons (tCB (xMin2) (tCons (tVar 1) (tCons (tCB (xLen K) (tCons (tFld K (tFld K (tVar 0) "waiting") "row") tNil)) tNil))) tNil)) (gName 2) tYes (tMeth (He.ga K "Store") "serve" (sp_Store_serve K) [] E0 (tVar 0) tNil) [2])))
theorem len_Store_idle {K : PySem.W.Frag} (vs : List V) (H : Hp) (Q : VK) (E : XK) (h : sp_Store_idle K vs H Q E) : vs.length = ["self", "many"].length := by
  unfold sp_Store_idle at h
  repeat (first | (obtain ⟨e, _⟩ := h; rw [e]; done) | (obtain ⟨e, _⟩ := h; rw [e]; rfl; done) | obtain ⟨_, h⟩ := h)
theorem pure_Store_idle {K : PySem.W.Frag} (pf : PF K) {vs : List V} {H : Hp} {Q : VK} {E : XK} (h : sp_Store_idle K vs H Q E) : t_Store_idle K { nx := fun _ H' => Q .non H', rt := Q } (start ["self", "many", "turn"] vs) H := by
  obtain ⟨L, s, B, m, rfl, h, ok, hB, hm, q⟩ := h
  obtain ⟨dx, ho⟩ := h.ob
  obtain ⟨dq, hq⟩ := h.q.ob
  have len := h.q.rs.len
  refine ⟨_, rfl, m, 0, 999, rfl, _, rfl, within_no (by omega) (by omega) ?_⟩
  refine ⟨_, rfl, _, rfl, _, _, _, _, _, rfl, ho, pf.cl_Store, pf.na_Store_waiting, rfl, _, _, _, _, _, rfl, hq, pf.cl_Queue, pf.na_Queue_row, rfl, _, _, rfl, .inl (SqL.of h.q.lr), _, _, rfl, _, rfl, ?_, ?_, ?_⟩
  · split <;> omega
  · split <;> omega
  rw [List.length_map, len]
  have emin : (if (s.q.row.length : Int) < (m : Int) then (s.q.row.length : Int) else (m : Int)).toNat = min m s.q.row.length := by
    split <;> omega
  rw [emin]
  intro D hD
  have nDf : D ∉ L.foot := fun z => h.has z hD
  refine lc_range (fun n H1 => n ≤ min m s.q.row.length → ∃ L1, StoAt K H1 L1 (drain n s) ∧ L1.st = L.st ∧ L1.d.d = L.d.d ∧ L1.q.q = L.q.q ∧ Step L.foot L1.foot H H1 ∧ H1 D = some (.lst ((cnts n s).map V.int)) ∧ D ∉ L1.foot)
    (fun _ => ⟨L, h.same (same_upd hD), rfl, rfl, rfl, Step.same _ (same_upd hD), by rw [upd_same]; rfl, nDf⟩) ?_ ?_
  · intro n H1 hn hpv
    obtain ⟨L1, h1, e1, e2, e3, k1, hD1, n1⟩ := hpv (by omega)
    refine ⟨rfl, ?_⟩
    unfold tYes
    dsimp only
    rw [if_pos rfl]
    obtain ⟨okn, lnn⟩ := drain_ok n ok (by omega)
    have hne : (drain n s).q.row ≠ [] := fun z => by
      rw [z] at lnn
      simp at lnn
      omega
    obtain ⟨dx1, ho1⟩ := h1.ob
    rw [e1] at ho1
    refine ⟨_, rfl, L.st, dx1, _, rfl, ho1, rfl, L1, _, B, by rw [e1]; rfl, h1, okn, by omega, hne, okn.dk hB, fun L2 H2 h2 a1 a2 a3 k2 => ?_⟩
    have hD2 := k2.at hD1 n1
    have n2 : D ∉ L2.foot := fun z => (k2.nw D z).elim n1 (fun w => by rw [hD1] at w; cases w)
    refine ⟨_, hD2, sz_lt (by rw [List.length_map, cnts_len]; omega), fun _ => ⟨L2, ?_, a1.trans e1, a2.trans e2, a3.trans e3, (k1.trans k2).upd (.inl hD), ?_, n2⟩⟩
    · rw [drain_step]
      exact h2.step (A := [D]) (A' := [D]) ((Step.refl [D] H2).upd (.inr ⟨by simp, fun xs => nt_lst hD2⟩)) fun b hb z => n2 (by rw [List.mem_singleton] at z; exact z ▸ hb)
    · rw [upd_same, cnts_step, List.map_append]
      rfl
  · intro H1 hpv
    obtain ⟨L1, h1, e1, e2, e3, k1, hD1, n1⟩ := hpv (Nat.le_refl _)
    exact q L1 H1 D h1 e1 e2 e3 k1 hD hD1 n1
def heldT (f : Fra) (v : V) (H : Hp) : Prop := ∃ t, v = .ref t ∧ H t = some (.tup [.int f.room, .int f.num, .bl f.dirty])
def askT (r : Rq) (v : V) (H : Hp) : Prop := ∃ t, v = .ref t ∧ H t = some (.tup [.int r.cnt, roomV r.w, numV r.w])
def sp_Store_held (K : PySem.W.Frag) : Sp := fun vs H Q _ => ∃ L s, vs = [.ref L.st] ∧ StoAt K H L s ∧ s.frs.length ≤ 1000 ∧ ∀ p vs H', H p = none → Same H H' → H' p = some (.lst vs) → All2 (fun f v => heldT f v H') s.frs vs → Q (.ref p) H'
def t_Store_held (K : PySem.W.Frag) : TS := (tRet (tLc (iList K (tFld K (tVar 0) "frames")) (gName 1) tYes (tTup (tCons (tFld K (tVar 1) "spot") (tCons (tFld K (tVar 1) "number") (tCons (tFld K (tVar 1) "dirty") tNil)))) [1]))
theorem len_Store_held {K : PySem.W.Frag} (vs : List V) (H : Hp) (Q : VK) (E : XK) (h : sp_Store_held K vs H Q E) : vs.length = ["self"].length := by
  unfold sp_Store_held at h
  repeat (first | (obtain ⟨e, _⟩ := h; rw [e]; done) | (obtain ⟨e, _⟩ := h; rw [e]; rfl; done) | obtain ⟨_, h⟩ := h)
theorem pure_Store_held {K : PySem.W.Frag} (pf : PF K) {vs : List V} {H : Hp} {Q : VK} {E : XK} (h : sp_Store_held K vs H Q E) : t_Store_held K { nx := fun _ H' => Q .non H', rt := Q } (start ["self", "frame"] vs) H := by
  obtain ⟨L, s, rfl, h, hz, q⟩ := h
  obtain ⟨dx, ho⟩ := h.ob
  have len := h.fs.len
  refine ⟨_, rfl, _, _, _, _, _, rfl, ho, pf.cl_Store, pf.na_Store_frames, rfl, _, rfl, ⟨_, SqL.of h.lf⟩, ?_⟩
  refine comp_make (fun D f v H => ∃ t, t ≠ D ∧ v = .ref t ∧ H t = some (.tup [.int f.room, .int f.num, .bl f.dirty])) ?_ h.fs (SqL.of h.lf) (by omega) ?_ ?_ ?_
  · rintro D f v H1 H2 k ⟨t, n, e, h⟩
    exact ⟨t, n, e, k _ _ h n⟩
  · exact of_decide_eq_true rfl
  · rintro D acc hD a f ha ⟨dy, e⟩ H1 s1 hv Rk rr
    have e1 := s1 _ _ e
    exact ⟨_, rfl, _, _, _, _, _, rfl, e1, pf.cl_Frame, pf.na_Frame_spot, rfl, _, rfl, _, _, _, _, _, rfl, e1, pf.cl_Frame, pf.na_Frame_number, rfl, _, rfl, _, _, _, _, _, rfl, e1, pf.cl_Frame, pf.na_Frame_dirty, rfl, of_decide_eq_true rfl, fun t ht => rr _ _ (same_upd ht) ⟨t, (ne_of_none hv ht).symm, rfl, upd_same⟩⟩
  · intro p vs H1 hp s1 hv hA
    exact q p vs H1 hp s1 hv (hA.imp fun f v _ _ h => h.elim fun t h => ⟨t, h.2.1, h.2.2⟩)
def sp_Store_queue (K : PySem.W.Frag) : Sp := fun vs H Q _ => ∃ L s, vs = [.ref L.st] ∧ StoAt K H L s ∧ s.q.row.length ≤ 1000000 ∧ ∀ p vs H', H p = none → Same H H' → H' p = some (.lst vs) → All2 (fun r v => askT r v H') s.q.row vs → Q (.ref p) H'
def t_Store_queue (K : PySem.W.Frag) : TS := (tRet (tLc (iList K (tFld K (tFld K (tVar 0) "waiting") "row")) (gName 1) tYes (tTup (tCons (tFld K (tVar 1) "count") (tCons (tFld K (tVar 1) "spot") (tCons (tFld K (tVar 1) "number") tNil)))) [1]))
theorem len_Store_queue {K : PySem.W.Frag} (vs : List V) (H : Hp) (Q : VK) (E : XK) (h : sp_Store_queue K vs H Q E) : vs.length = ["self"].length := by
  unfold sp_Store_queue at h
  repeat (first | (obtain ⟨e, _⟩ := h; rw [e]; done) | (obtain ⟨e, _⟩ := h; rw [e]; rfl; done) | obtain ⟨_, h⟩ := h)
theorem pure_Store_queue {K : PySem.W.Frag} (pf : PF K) {vs : List V} {H : Hp} {Q : VK} {E : XK} (h : sp_Store_queue K vs H Q E) : t_Store_queue K { nx := fun _ H' => Q .non H', rt := Q } (start ["self", "request"] vs) H := by
  obtain ⟨L, s, rfl, h, hz, q⟩ := h
  obtain ⟨dx, ho⟩ := h.ob
  obtain ⟨dq, hq⟩ := h.q.ob
  have len := h.q.rs.len
  refine ⟨_, rfl, _, _, _, _, _, rfl, ho, pf.cl_Store, pf.na_Store_waiting, rfl, _, _, _, _, _, rfl, hq, pf.cl_Queue, pf.na_Queue_row, rfl, _, rfl, ⟨_, SqL.of h.q.lr⟩, ?_⟩
  refine comp_make (fun D r v H => ∃ t, t ≠ D ∧ v = .ref t ∧ H t = some (.tup [.int r.cnt, roomV r.w, numV r.w])) ?_ h.q.rs (SqL.of h.q.lr) (by omega) ?_ ?_ ?_
  · rintro D f v H1 H2 k ⟨t, n, e, h⟩
    exact ⟨t, n, e, k _ _ h n⟩
  · exact of_decide_eq_true rfl
  · rintro D acc hD a f ha ⟨dy, e⟩ H1 s1 hv Rk rr
    have e1 := s1 _ _ e
    exact ⟨_, rfl, _, _, _, _, _, rfl, e1, pf.cl_Request, pf.na_Request_count, rfl, _, rfl, _, _, _, _, _, rfl, e1, pf.cl_Request, pf.na_Request_spot, rfl, _, rfl, _, _, _, _, _, rfl, e1, pf.cl_Request, pf.na_Request_number, rfl, of_decide_eq_true rfl, fun t ht => rr _ _ (same_upd ht) ⟨t, (ne_of_none hv ht).symm, rfl, upd_same⟩⟩
  · intro p vs H1 hp s1 hv hA
    exact q p vs H1 hp s1 hv (hA.imp fun f v _ _ h => h.elim fun t h => ⟨t, h.2.1, h.2.2⟩)
def sp_Store_arm (K : PySem.W.Frag) : Sp := fun vs H Q _ => ∃ L s, vs = [.ref L.st] ∧ StoAt K H L s ∧ Q (.int s.q.arm) H
def t_Store_arm (K : PySem.W.Frag) : TS := (tRet (tFld K (tFld K (tVar 0) "waiting") "spot"))
theorem len_Store_arm {K : PySem.W.Frag} (vs : List V) (H : Hp) (Q : VK) (E : XK) (h : sp_Store_arm K vs H Q E) : vs.length = ["self"].length := by
  unfold sp_Store_arm at h
  repeat (first | (obtain ⟨e, _⟩ := h; rw [e]; done) | (obtain ⟨e, _⟩ := h; rw [e]; rfl; done) | obtain ⟨_, h⟩ := h)
theorem pure_Store_arm {K : PySem.W.Frag} (pf : PF K) {vs : List V} {H : Hp} {Q : VK} {E : XK} (h : sp_Store_arm K vs H Q E) : t_Store_arm K { nx := fun _ H' => Q .non H', rt := Q } (start ["self"] vs) H := by
  obtain ⟨L, s, rfl, h, q⟩ := h
  obtain ⟨dx, ho⟩ := h.ob
  obtain ⟨dq, hq⟩ := h.q.ob
  exact ⟨_, rfl, _, _, _, _, _, rfl, ho, pf.cl_Store, pf.na_Store_waiting, rfl, _, _, _, _, _, rfl, hq, pf.cl_Queue, pf.na_Queue_spot, rfl, q⟩
def sp_Store_rooms (K : PySem.W.Frag) : Sp := fun vs H Q _ => ∃ L s, vs = [.ref L.st] ∧ StoAt K H L s ∧ Q (.int s.d.sure.length) H
def t_Store_rooms (K : PySem.W.Frag) : TS := (tRet (tMeth (He.ga K "Disk") "rooms" (sp_Disk_rooms K) [] E0 (tFld K (tVar 0) "disk") tNil))
theorem len_Store_rooms {K : PySem.W.Frag} (vs : List V) (H : Hp) (Q : VK) (E : XK) (h : sp_Store_rooms K vs H Q E) : vs.length = ["self"].length := by
  unfold sp_Store_rooms at h
  repeat (first | (obtain ⟨e, _⟩ := h; rw [e]; done) | (obtain ⟨e, _⟩ := h; rw [e]; rfl; done) | obtain ⟨_, h⟩ := h)
theorem pure_Store_rooms {K : PySem.W.Frag} (pf : PF K) {vs : List V} {H : Hp} {Q : VK} {E : XK} (h : sp_Store_rooms K vs H Q E) : t_Store_rooms K { nx := fun _ H' => Q .non H', rt := Q } (start ["self"] vs) H := by
  obtain ⟨L, s, rfl, h, q⟩ := h
  obtain ⟨dx, ho⟩ := h.ob
  obtain ⟨dd, hd⟩ := h.d.ob
  exact ⟨_, rfl, _, _, _, _, _, rfl, ho, pf.cl_Store, pf.na_Store_disk, rfl, L.d.d, dd, _, rfl, hd, rfl, L.d, s.d, rfl, h.d, q⟩
end SY

/-! ## Prog, part L: the laws' own draws -/
namespace SY
open PySem PySem.Spec PyProof.Rows L2 XB
theorem pos9 : (0 : Int) < 9 := by decide
theorem pos12 : (0 : Int) < 12 := by decide
theorem pos16 : (0 : Int) < 16 := by decide
theorem pos24 : (0 : Int) < 24 := by decide
theorem pos1009 : (0 : Int) < 1009 := by decide
theorem pos1000003 : (0 : Int) < 1000003 := by decide
theorem seq_kp {K : PySem.W.Frag} {A : Addr → Prop} {H H' : Hp} {a : Addr} {xs : List V} (h : SqL K H a xs) (k : Kp A H H') (n : ¬ A a) : SqL K H' a xs := by
  rcases h with (h | ⟨o, h⟩) | h
  · exact .inl (.inl (k _ _ h n))
  · exact .inl (.inr ⟨o, k _ _ h n⟩)
  · exact .inr h
/-- the script, beside a list that is written at -/
def ScrSt (K : PySem.W.Frag) (H : Hp) (st a : Addr) (ns : List Int) : Prop := (st ≠ a ∧ SqL K H a (ns.map V.int)) ∨ ∀ H', SqL K H' a (ns.map V.int)
section
variable {K : PySem.W.Frag} {H H' : Hp} {st a : Addr} {ns : List Int}
theorem ScrSt.sq (h : ScrSt K H st a ns) : SqL K H a (ns.map V.int) := h.elim (fun z => z.2) fun z => z H
theorem ScrSt.kp (h : ScrSt K H st a ns) (k : Kp (fun b => b = st) H H') : ScrSt K H' st a ns := h.imp (fun z => ⟨z.1, seq_kp z.2 k fun w => z.1 w.symm⟩) id
theorem ScrSt.same (h : ScrSt K H st a ns) (k : Same H H') : ScrSt K H' st a ns := h.imp (fun z => ⟨z.1, k.seq z.2⟩) id
theorem ScrSt.of (h : SqL K H a (ns.map V.int)) (n : H st = none) : ScrSt K H st a ns := by
  rcases h with (h | ⟨o, h⟩) | h
  · exact .inl ⟨(ne_of_none h n).symm, .inl (.inl h)⟩
  · exact .inl ⟨(ne_of_none h n).symm, .inl (.inr ⟨o, h⟩)⟩
  · exact .inr fun H' => .inr h
end
def cellA (ns : List Int) (k : Nat) : Int := (ns[k]?).getD 0
def sp__law_cell_at (K : PySem.W.Frag) : Sp := fun vs H Q _ => ∃ a ns k, vs = [.ref a, .int (k : Nat)] ∧ SqL K H a (ns.map V.int) ∧ Q (.int (cellA ns k)) H
def t__law_cell_at (K : PySem.W.Frag) : TS := (tSeq (tIfS (tTest (tOp xLt (tVar 1) (tCB (xLen K) (tCons (tVar 0) tNil)))) (tRet (tOp (rIxL K) (tVar 0) (tVar 1))) tNext)
    (tRet (tC (.int 0))))
theorem len__law_cell_at {K : PySem.W.Frag} (vs : List V) (H : Hp) (Q : VK) (E : XK) (h : sp__law_cell_at K vs H Q E) : vs.length = ["_law_script", "_law_k"].length := by
  unfold sp__law_cell_at at h
  repeat (first | (obtain ⟨e, _⟩ := h; rw [e]; done) | (obtain ⟨e, _⟩ := h; rw [e]; rfl; done) | obtain ⟨_, h⟩ := h)
theorem pure__law_cell_at {K : PySem.W.Frag} (pf : PF K) {vs : List V} {H : Hp} {Q : VK} {E : XK} (h : sp__law_cell_at K vs H Q E) : t__law_cell_at K { nx := fun _ H' => Q .non H', rt := Q } (start ["_law_script", "_law_k"] vs) H := by
  obtain ⟨a, ns, k, rfl, hs, q⟩ := h
  refine ⟨_, rfl, _, rfl, a, _, rfl, .inl hs, _, _, rfl, rfl, _, rfl, ?_⟩
  rw [List.length_map]
  by_cases hk : k < ns.length
  · refine iteY (decide_eq_true (by omega)) ⟨_, rfl, _, rfl, a, _, _, .int (cellA ns k), rfl, rfl, hs, atI_of ?_, q⟩
    unfold cellA
    rw [List.getElem?_map, List.getElem?_eq_getElem hk]
    rfl
  · refine iteN (decide_eq_false (by omega)) ?_
    unfold cellA at q
    rw [List.getElem?_eq_none (by omega)] at q
    exact q
def primes : List Int := [1000003, 1000033, 1000037, 1000039, 1000081, 1000099, 1000117, 1000121, 1000133, 1000151, 1000159, 1000171, 1000183, 1000187, 1000193, 1000199]
theorem prime_at (j : Nat) (h : j < 16) : ∃ p, (primes.map V.int)[j]? = some (.int p) ∧ 0 < p := by
  have : ∀ j : Fin 16, ∃ p, primes[j.val]? = some p ∧ 0 < p := by decide +kernel
  obtain ⟨p, e, h0⟩ := this ⟨j, h⟩
  refine ⟨p, ?_, h0⟩
  rw [List.getElem?_map, e]
  rfl
def sp__law_draw (K : PySem.W.Frag) : Sp := fun vs H Q _ => ∃ c k m, vs = [.int c, .int k, .int m] ∧ 0 < m ∧ ∀ i H', 0 ≤ i → i < m → Same H H' → Q (.int i) H'
def t__law_draw (K : PySem.W.Frag) : TS := (tSeq (tAsg (tTup (tCons (tC (.int 1000003)) (tCons (tC (.int 1000033)) (tCons (tC (.int 1000037)) (tCons (tC (.int 1000039)) (tCons (tC (.int 1000081)) (tCons (tC (.int 1000099)) (tCons (tC (.int 1000117)) (tCons (tC (.int 1000121)) (tCons (tC (.int 1000133)) (tCons (tC (.int 1000151)) (tCons (tC (.int 1000159)) (tCons (tC (.int 1000171)) (tCons (tC (.int 1000183)) (tCons (tC (.int 1000187)) (tCons (tC (.int 1000193)) (tCons (tC (.int 1000199)) tNil))))))))))))))))) (gName 3))
    (tRet (tOp xMod (tOp xMod (tOp xAdd (tOp xMul (tVar 0) (tC (.int 48271))) (tOp xMul (tVar 1) (tC (.int 69621)))) (tOp (rIxT K) (tVar 3) (tOp xMod (tVar 1) (tC (.int 16))))) (tVar 2))))
theorem len__law_draw {K : PySem.W.Frag} (vs : List V) (H : Hp) (Q : VK) (E : XK) (h : sp__law_draw K vs H Q E) : vs.length = ["_law_cell", "_law_k", "_law_most"].length := by
  unfold sp__law_draw at h
  repeat (first | (obtain ⟨e, _⟩ := h; rw [e]; done) | (obtain ⟨e, _⟩ := h; rw [e]; rfl; done) | obtain ⟨_, h⟩ := h)
theorem pure__law_draw {K : PySem.W.Frag} (pf : PF K) {vs : List V} {H : Hp} {Q : VK} {E : XK} (h : sp__law_draw K vs H Q E) : t__law_draw K { nx := fun _ H' => Q .non H', rt := Q } (start ["_law_cell", "_law_k", "_law_most", "_law_primes"] vs) H := by
  obtain ⟨c, k, m, rfl, hm, q⟩ := h
  refine ⟨of_decide_eq_true rfl, fun p hp => ?_⟩
  have h1 : 0 ≤ k % 16 := Int.emod_nonneg k (by decide)
  have h2 : k % 16 < 16 := Int.emod_lt_of_pos k (by decide)
  obtain ⟨pr, hpr, h0⟩ := prime_at (k % 16).toNat (by omega)
  refine ⟨_, rfl, _, _, rfl, rfl, .inr (by decide), _, rfl, _, _, rfl, rfl, .inr (by decide), _, _, rfl, rfl, ?_⟩
  refine ⟨_, rfl, _, rfl, _, _, rfl, rfl, pos16, p, primes.map V.int, k % 16, .int pr, rfl, rfl, SqT.of upd_same, ?_, ?_⟩
  · have := atI_of hpr
    rw [Int.toNat_of_nonneg h1] at this
    exact this
  · refine ⟨_, _, rfl, rfl, h0, _, rfl, _, _, rfl, rfl, hm, ?_⟩
    exact q _ _ (Int.emod_nonneg _ (by omega)) (Int.emod_lt_of_pos _ hm) (same_upd hp)
def sp__law_number (K : PySem.W.Frag) : Sp := fun vs H Q _ => ∃ c k m, vs = [.int c, .int k, .int m] ∧ 0 < m ∧ 0 ≤ k ∧ k ≤ 1000 ∧ ∀ i H', 0 ≤ i → i < m → Same H H' → Q (.int i) H'
def t__law_number (K : PySem.W.Frag) : TS := (tSeq (tAsg (tOp xSub (tVar 0) (tOp xPow (tC (.int 10)) (tC (.int 18)))) (gName 3))
    (tSeq (tFor (iRng1 (tCons (tOp xMod (tVar 1) (tC (.int 24))) tNil)) (gName 4) (tAsg (tOp xDiv (tVar 3) (tC (.int 1009))) (gName 3)))
    (tSeq (tIfS (tTest (tOp xGt (tVar 3) (tC (.int 0)))) (tRet (tOp xMod (tOp xMod (tVar 3) (tC (.int 1009))) (tVar 2))) tNext)
    (tSeq (tAsg (tOp xMod (tVar 0) (tC (.int 1000003))) (gName 5))
    (tRet (tOp xMod (tCall (sp__law_draw K) [] E0 (tCons (tOp xMul (tOp xAdd (tVar 5) (tOp xMul (tC (.int 977)) (tVar 1))) (tOp xAdd (tOp xAdd (tVar 5) (tOp xMul (tC (.int 31)) (tVar 1))) (tC (.int 5)))) (tCons (tOp xAdd (tOp xMod (tVar 1) (tC (.int 9))) (tC (.int 1))) (tCons (tC (.int 999983)) tNil)))) (tVar 2)))))))
theorem len__law_number {K : PySem.W.Frag} (vs : List V) (H : Hp) (Q : VK) (E : XK) (h : sp__law_number K vs H Q E) : vs.length = ["_law_cell", "_law_k", "_law_limit"].length := by
  unfold sp__law_number at h
  repeat (first | (obtain ⟨e, _⟩ := h; rw [e]; done) | (obtain ⟨e, _⟩ := h; rw [e]; rfl; done) | obtain ⟨_, h⟩ := h)
theorem pure__law_number {K : PySem.W.Frag} (pf : PF K) {vs : List V} {H : Hp} {Q : VK} {E : XK} (h : sp__law_number K vs H Q E) : t__law_number K { nx := fun _ H' => Q .non H', rt := Q } (start ["_law_cell", "_law_k", "_law_limit", "_law_rest", "_law_turn", "_law_small"] vs) H := by
  obtain ⟨c, k, m, rfl, hm, k0, k1, q⟩ := h
  have kb1 : 0 ≤ k % 24 := Int.emod_nonneg k (by decide)
  have kb2 : k % 24 < 24 := Int.emod_lt_of_pos k (by decide)
  refine ⟨_, rfl, _, _, rfl, rfl, ⟨by decide, by decide, by decide⟩, _, _, rfl, rfl, ?_⟩
  refine ⟨_, rfl, _, _, rfl, rfl, pos24, _, rfl, by omega, by omega, ?_⟩
  refine for_range (fun n σ H1 => H1 = H ∧ ∃ r v4, σ = [some (.int c), some (.int k), some (.int m), some (.int r), v4, none]) ⟨rfl, _, _, rfl⟩ ?_ ?_
  · rintro n σ H1 hn ⟨rfl, r, v4, rfl⟩
    exact ⟨_, rfl, _, _, rfl, rfl, ⟨by decide, by decide⟩, rfl, _, _, rfl⟩
  · rintro σ H1 ⟨rfl, r, v4, rfl⟩
    refine ⟨_, rfl, _, _, rfl, rfl, _, rfl, ?_⟩
    by_cases hr : 0 < r
    · refine iteY (decide_eq_true hr) ?_
      refine ⟨_, rfl, _, _, rfl, rfl, pos1009, _, rfl, _, _, rfl, rfl, hm, ?_⟩
      exact q _ _ (Int.emod_nonneg _ (by omega)) (Int.emod_lt_of_pos _ hm) (Same.refl _)
    · refine iteN (decide_eq_false hr) ?_
      have s1 : 0 ≤ c % 1000003 := Int.emod_nonneg c (by decide)
      have s2 : c % 1000003 < 1000003 := Int.emod_lt_of_pos c (by decide)
      refine ⟨_, rfl, _, _, rfl, rfl, pos1000003, ?_⟩
      refine ⟨_, rfl, _, rfl, _, _, rfl, rfl, .inl (by decide), _, _, rfl, rfl, ?_⟩
      refine ⟨_, rfl, _, rfl, _, _, rfl, rfl, .inl (by decide), _, _, rfl, rfl, _, _, rfl, rfl, ?_⟩
      refine ⟨_, _, rfl, rfl, .inl (by constructor <;> omega), ?_⟩
      refine ⟨_, rfl, _, _, rfl, rfl, pos9, _, _, rfl, rfl, ?_⟩
      refine ⟨_, _, _, rfl, by decide, fun i H2 i0 i1 s3 => ?_⟩
      refine ⟨_, rfl, _, _, rfl, rfl, hm, ?_⟩
      exact q _ _ (Int.emod_nonneg _ (by omega)) (Int.emod_lt_of_pos _ hm) s3
def sp__law_next (K : PySem.W.Frag) : Sp := fun vs H Q _ => ∃ (st a : Addr) (ns : List Int) (by' n : Nat) (m : Int), vs = [.ref st, .int m] ∧ 0 < m ∧ H st = some (.lst [.ref a, .int by', .int n]) ∧ ScrSt K H st a ns ∧
  ∀ i H', 0 ≤ i → i < m → Kp (fun b => b = st) H H' → (∀ b xs, H b = some (.tup xs) → H' b = some (.tup xs)) → H' st = some (.lst [.ref a, .int by', .int (n + 1 : Nat)]) → Q (.int i) H'
def t__law_next (K : PySem.W.Frag) : TS := (tSeq (tAsg (tOp xAdd (tOp (rIxL K) (tVar 0) (tC (.int 2))) (tC (.int 1))) (gSub (tVar 0) (tC (.int 2)) rSetL))
    (tSeq (tAsg (tOp xDiv (tOp (rIxL K) (tVar 0) (tC (.int 2))) (tC (.int 12))) (gName 2))
    (tSeq (tAsg (tOp xAdd (tCall (sp__law_cell_at K) [] E0 (tCons (tOp (rIxL K) (tVar 0) (tC (.int 0))) (tCons (tOp xAdd (tOp (rIxL K) (tVar 0) (tC (.int 1))) (tVar 2)) tNil))) (tOp xMul (tC (.int 31)) (tVar 2))) (gName 3))
    (tRet (tCall (sp__law_number K) [] E0 (tCons (tVar 3) (tCons (tOp xAdd (tOp xMod (tOp (rIxL K) (tVar 0) (tC (.int 2))) (tC (.int 12))) (tC (.int 1))) (tCons (tVar 1) tNil))))))))
theorem len__law_next {K : PySem.W.Frag} (vs : List V) (H : Hp) (Q : VK) (E : XK) (h : sp__law_next K vs H Q E) : vs.length = ["_law_state", "_law_limit"].length := by
  unfold sp__law_next at h
  repeat (first | (obtain ⟨e, _⟩ := h; rw [e]; done) | (obtain ⟨e, _⟩ := h; rw [e]; rfl; done) | obtain ⟨_, h⟩ := h)
theorem pure__law_next {K : PySem.W.Frag} (pf : PF K) {vs : List V} {H : Hp} {Q : VK} {E : XK} (h : sp__law_next K vs H Q E) : t__law_next K { nx := fun _ H' => Q .non H', rt := Q } (start ["_law_state", "_law_limit", "_law_at", "_law_cell"] vs) H := by
  obtain ⟨st, a, ns, b, n, m, rfl, hm, hst, hs, q⟩ := h
  refine ⟨_, rfl, st, _, 2, .int (n : Nat), rfl, rfl, SqL.of hst, rfl, _, _, rfl, rfl, _, rfl, st, _, 2, 2, rfl, rfl, hst, rfl, ?_⟩
  have h1 : (upd H st (.lst ([.ref a, .int (b : Nat), .int (n : Nat)].set 2 (.int ((n : Int) + 1))))) st = some (.lst [.ref a, .int (b : Nat), .int (n + 1 : Nat)]) := upd_same
  refine ⟨_, rfl, st, _, 2, .int (n + 1 : Nat), rfl, rfl, SqL.of h1, rfl, _, _, rfl, rfl, ⟨by decide, by decide⟩, ?_⟩
  have hsa := (hs.kp (kp_upd hst (o := .lst ([.ref a, .int (b : Nat), .int (n : Nat)].set 2 (.int ((n : Int) + 1)))))).sq
  refine ⟨_, rfl, st, _, 0, .ref a, rfl, rfl, SqL.of h1, rfl, _, rfl, st, _, 1, .int b, rfl, rfl, SqL.of h1, rfl, _, rfl, _, _, rfl, rfl, ?_⟩
  refine ⟨a, ns, b + (n + 1) / 12, ?_, hsa, ?_⟩
  · rfl
  refine ⟨_, rfl, _, _, rfl, rfl, .inl (by decide), _, _, rfl, rfl, ?_⟩
  refine ⟨_, rfl, _, rfl, st, _, 2, .int (n + 1 : Nat), rfl, rfl, SqL.of h1, rfl, _, _, rfl, rfl, pos12, _, _, rfl, rfl, _, rfl, ?_⟩
  have b1 : 0 ≤ ((n + 1 : Nat) : Int) % 12 := Int.emod_nonneg _ (by decide)
  have b2 : ((n + 1 : Nat) : Int) % 12 < 12 := Int.emod_lt_of_pos _ (by decide)
  refine ⟨_, _, m, rfl, hm, by omega, by omega, fun i H2 i0 i1 s2 => q i H2 i0 i1 ?_ ?_ (s2 _ _ h1)⟩
  · exact fun c o e n => s2 _ _ ((upd_ne n).trans e)
  · exact fun c xs e => s2 _ _ ((upd_ne (ne_lst_tup hst e)).trans e)
end SY

/-! ## Prog, part N: data of numbers, and how they are shown -/
namespace SY
open PySem PySem.Spec PyProof.Rows L2 XB
mutual
def nums : PyData → Bool
  | .none | .bool _ => true
  | .int i => decide (i.natAbs < 10 ^ 22)
  | .str _ => false
  | .list xs | .tuple xs => numsAll xs
  | .dict _ => false
def numsAll : List PyData → Bool
  | [] => true
  | x :: xs => nums x && numsAll xs
end
theorem log_small {n : Nat} (h : n < 10 ^ 22) : n.log2 < 1920 := by
  by_cases h0 : n = 0
  · subst h0
    decide
  · exact (Nat.log2_lt h0).mpr (Nat.lt_of_lt_of_le h (by decide +kernel))
mutual
theorem nums_show : ∀ d : PyData, nums d = true → d.showable = true
  | .none, _ => rfl
  | .bool _, _ => rfl
  | .int i, h => by
    rw [nums] at h
    rw [PyData.showable]
    exact decide_eq_true (log_small (of_decide_eq_true h))
  | .str _, h => rfl
  | .list xs, h => by
    rw [nums] at h
    rw [PyData.showable]
    exact numsAll_show xs h
  | .tuple xs, h => by
    rw [nums] at h
    rw [PyData.showable]
    exact numsAll_show xs h
  | .dict _, h => by
    rw [nums] at h
    cases h
theorem numsAll_show : ∀ ds : List PyData, numsAll ds = true → PyData.showableAll ds = true
  | [], _ => rfl
  | d :: ds, h => by
    rw [numsAll, Bool.and_eq_true] at h
    rw [PyData.showableAll, nums_show d h.1, numsAll_show ds h.2]
    rfl
end
theorem int_short {i : Int} (h : i.natAbs < 10 ^ 22) : (PyData.shown (.int i)).length ≤ 23 := by
  have := int_text_length_le10 (by decide) h
  rw [PyData.shown_int]
  have e : (Str.ofString (toString i)).length = (toString i).length := by
    rw [Str.ofString_eq_toList]
    show ((toString i).toList.map Char.toNat).toArray.size = _
    simp [String.length_toList]
  rw [e]
  exact this
mutual
theorem nums_short : ∀ d : PyData, nums d = true → d.leavesShort 23 = true
  | .none, _ => rfl
  | .bool _, _ => rfl
  | .int i, h => by
    rw [nums] at h
    rw [PyData.leavesShort]
    exact decide_eq_true (int_short (of_decide_eq_true h))
  | .str _, h => by
    rw [nums] at h
    cases h
  | .list xs, h => by
    rw [nums] at h
    rw [PyData.leavesShort]
    exact numsAll_short xs h
  | .tuple xs, h => by
    rw [nums] at h
    rw [PyData.leavesShort]
    exact numsAll_short xs h
  | .dict _, h => by
    rw [nums] at h
    cases h
theorem numsAll_short : ∀ ds : List PyData, numsAll ds = true → PyData.leavesShortAll 23 ds = true
  | [], _ => rfl
  | d :: ds, h => by
    rw [numsAll, Bool.and_eq_true] at h
    rw [PyData.leavesShortAll, nums_short d h.1, numsAll_short ds h.2]
    rfl
end
theorem strOk_app (a b : Str) : PyData.strOk (a ++ b) = (PyData.strOk a && PyData.strOk b) := by
  unfold PyData.strOk
  show (a.cps ++ b.cps).all _ = _
  rw [Array.all_append]
theorem strOk_of (s : String) : PyData.strOk (Str.ofString s) = true := by
  rw [Str.ofString_eq_toList]
  unfold PyData.strOk
  simp only [List.all_toArray, List.all_map, List.all_eq_true]
  intro c _
  have := c.valid
  simp only [Function.comp, decide_eq_true_eq]
  have h2 : c.toNat < 0x110000 := by
    rcases this with h | h
    · show c.val.toNat < _
      omega
    · show c.val.toNat < _
      omega
  exact h2
theorem strOk_textFrom : ∀ (ts : List Str) (k : Nat) (acc : Str), PyData.strOk acc = true → (∀ t ∈ ts, PyData.strOk t = true) → PyData.strOk (textFrom k acc ts) = true
  | [], k, acc, h, _ => h
  | t :: ts, k, acc, h, ht => by
    rw [textFrom]
    refine strOk_textFrom ts (k + 1) _ ?_ fun t h => ht t (List.mem_cons_of_mem _ h)
    rw [strOk_app, strOk_app, h, ht t List.mem_cons_self, strOk_of]
    rfl
theorem strOk_join : ∀ ts : List Str, (∀ t ∈ ts, PyData.strOk t = true) → PyData.strOk (Str.join ", " ts) = true
  | [], _ => by
    show PyData.strOk Str.empty = true
    unfold PyData.strOk Str.empty
    simp
  | [x], h => h x List.mem_cons_self
  | x :: y :: r, h => by
    show PyData.strOk (x ++ ", " ++ Str.join ", " (y :: r)) = true
    rw [strOk_app, strOk_app, h x List.mem_cons_self, strOk_join (y :: r) fun t ht => h t (List.mem_cons_of_mem _ ht), strOk_of]
    rfl
mutual
theorem nums_text : ∀ d : PyData, nums d = true → PyData.strOk d.shown = true
  | .none, _ => by
    rw [PyData.shown_none]
    exact strOk_of _
  | .bool b, _ => by
    rw [PyData.shown_bool]
    split <;> exact strOk_of _
  | .int i, _ => by
    rw [PyData.shown_int]
    exact strOk_of _
  | .str _, h => by
    rw [nums] at h
    cases h
  | .list xs, h => by
    rw [nums] at h
    rw [PyData.shown_list]
    rw [strOk_app, strOk_app, strOk_join _ (numsAll_text xs h), strOk_of, strOk_of]
    rfl
  | .tuple xs, h => by
    rw [nums] at h
    rw [PyData.shown_tuple]
    rw [strOk_app, strOk_app, strOk_join _ (numsAll_text xs h), strOk_of, strOk_of]
    rfl
  | .dict _, h => by
    rw [nums] at h
    cases h
theorem numsAll_text : ∀ ds : List PyData, numsAll ds = true → ∀ t ∈ PyData.shownAll ds, PyData.strOk t = true
  | [], _, t, ht => by
    rw [PyData.shownAll_nil] at ht
    cases ht
  | d :: ds, h, t, ht => by
    rw [numsAll, Bool.and_eq_true] at h
    rw [PyData.shownAll_cons, List.mem_cons] at ht
    rcases ht with rfl | ht
    · exact nums_text d h.1
    · exact numsAll_text ds h.2 t ht
end
/-- numbers only, not too deep, not too much -/
structure Fit (d : PyData) (k c : Nat) : Prop where
  nu : nums d = true
  de : d.depth ≤ k
  bu : d.bulk ≤ c
theorem Fit.int {i : Int} (h : i.natAbs < 10 ^ 22) : Fit (.int i) 0 0 := ⟨by rw [nums]; exact decide_eq_true h, Nat.le_refl _, Nat.le_refl _⟩
theorem Fit.none : Fit .none 0 0 := ⟨rfl, Nat.le_refl _, Nat.le_refl _⟩
theorem Fit.bool (b : Bool) : Fit (.bool b) 0 0 := ⟨rfl, Nat.le_refl _, Nat.le_refl _⟩
theorem Fit.mono {d : PyData} {k c k' c' : Nat} (h : Fit d k c) (hk : k ≤ k') (hc : c ≤ c') : Fit d k' c' := ⟨h.nu, Nat.le_trans h.de hk, Nat.le_trans h.bu hc⟩
theorem fit_all {k c : Nat} : ∀ {ds : List PyData}, (∀ d ∈ ds, Fit d k c) → numsAll ds = true ∧ PyData.depthAll ds ≤ k ∧ PyData.bulkAll ds ≤ ds.length * (c + 1)
  | [], _ => ⟨rfl, Nat.zero_le _, Nat.zero_le _⟩
  | d :: ds, h => by
    obtain ⟨a1, a2, a3⟩ := fit_all fun x hx => h x (List.mem_cons_of_mem _ hx)
    have h0 := h d List.mem_cons_self
    refine ⟨by rw [numsAll, h0.nu, a1]; rfl, ?_, ?_⟩
    · rw [PyData.depthAll]
      exact Nat.max_le.mpr ⟨h0.de, a2⟩
    · have := h0.bu
      rw [PyData.bulkAll, List.length_cons, Nat.add_mul, Nat.one_mul]
      omega
theorem Fit.list {k c n : Nat} {ds : List PyData} (h : ∀ d ∈ ds, Fit d k c) (hn : ds.length ≤ n) : Fit (.list ds) (k + 1) (n * (c + 1)) := by
  obtain ⟨a1, a2, a3⟩ := fit_all h
  refine ⟨by rw [nums]; exact a1, ?_, ?_⟩
  · rw [PyData.depth]
    omega
  · rw [PyData.bulk]
    exact Nat.le_trans a3 (Nat.mul_le_mul_right _ hn)
theorem Fit.tuple {k c n : Nat} {ds : List PyData} (h : ∀ d ∈ ds, Fit d k c) (hn : ds.length ≤ n) : Fit (.tuple ds) (k + 1) (n * (c + 1)) := by
  obtain ⟨a1, a2, a3⟩ := fit_all h
  refine ⟨by rw [nums]; exact a1, ?_, ?_⟩
  · rw [PyData.depth]
    omega
  · rw [PyData.bulk]
    exact Nat.le_trans a3 (Nat.mul_le_mul_right _ hn)
theorem Fit.len {d : PyData} {k c : Nat} (h : Fit d k c) (hc : c ≤ 600000) : d.shown.length ≤ sizeLine := by
  have := PyData.shown_le_bulk 23 (by decide) d (nums_short d h.nu)
  have hb := h.bu
  have : d.shown.length ≤ 16000000 := by omega
  exact sz_ok this
/-- what str(v) asks -/
theorem Fit.str {K : PySem.W.Frag} {H : Hp} {v : V} {d : PyData} {k c : Nat} {Q : VK} (h : Fit d k c) (hd : Dp K H v d) (hb : ∀ b, v ≠ .bl b) (hk : k ≤ 60) (hc : c ≤ 600000) (q : Q (.str d.shown) H) : rStr K [v] H Q := by
  refine ⟨v, d, rfl, hd, ?_, hb, nums_show d h.nu, Nat.le_trans h.de hk, h.len hc, q⟩
  · rintro x rfl
    cases hd
    have := h.nu
    rw [nums] at this
    cases this
theorem Fit.three {a b e : PyData} {k c1 c2 c3 : Nat} (h1 : Fit a k c1) (h2 : Fit b k c2) (h3 : Fit e k c3) : Fit (.list [a, b, e]) (k + 1) (c1 + c2 + c3 + 3) := by
  have d1 := h1.de
  have d2 := h2.de
  have d3 := h3.de
  have b1 := h1.bu
  have b2 := h2.bu
  have b3 := h3.bu
  refine ⟨?_, ?_, ?_⟩
  · rw [nums, numsAll, numsAll, numsAll, numsAll, h1.nu, h2.nu, h3.nu]
    rfl
  · rw [PyData.depth, PyData.depthAll, PyData.depthAll, PyData.depthAll, PyData.depthAll]
    omega
  · rw [PyData.bulk, PyData.bulkAll, PyData.bulkAll, PyData.bulkAll, PyData.bulkAll]
    omega
end SY

/-! ## Prog, part O: how big numbers grow -/
namespace SY
open PySem PySem.Spec PyProof.Rows L2 XB
structure Sto.Nm (s : Sto) (N P : Nat) : Prop where
  fr : ∀ f ∈ s.frs, f.num.natAbs ≤ N
  rq : ∀ r ∈ s.q.row, ∀ p, r.w = some p → p.2.natAbs ≤ N
  cn : ∀ r ∈ s.q.row, 0 ≤ r.cnt
  put : 0 ≤ s.q.put ∧ s.q.put ≤ P
  lots : ∀ lot ∈ s.d.lots, ∀ p ∈ lot, p.2.natAbs ≤ N
  sure : ∀ x ∈ s.d.sure, x.natAbs ≤ N
  arm : 0 ≤ s.q.arm ∧ s.q.arm < 40
theorem Sto.Nm.mono {s : Sto} {N P P' : Nat} (h : s.Nm N P) (hP : P ≤ P') : s.Nm N P' := { h with put := ⟨h.put.1, by have := h.put.2; omega⟩ }
theorem setP_all {N : Nat} : ∀ (ps : List (Int × Int)) {l : List Int}, (∀ x ∈ l, x.natAbs ≤ N) → (∀ p ∈ ps, p.2.natAbs ≤ N) → ∀ x ∈ ps.foldl setP l, x.natAbs ≤ N
  | [], l, h, _, x, hx => h x hx
  | p :: ps, l, h, hp, x, hx => by
    refine setP_all ps (l := setP l p) (fun y hy => ?_) (fun q hq => hp q (List.mem_cons_of_mem _ hq)) x hx
    unfold setP at hy
    rcases List.mem_or_eq_of_mem_set hy with hy | rfl
    · exact h y hy
    · exact hp p List.mem_cons_self
theorem shown_all {s : Dsk} {N : Nat} (h1 : ∀ x ∈ s.sure, x.natAbs ≤ N) (h2 : ∀ lot ∈ s.lots, ∀ p ∈ lot, p.2.natAbs ≤ N) : ∀ x ∈ s.shown, x.natAbs ≤ N := by
  refine setP_all _ h1 fun p hp => ?_
  rw [List.take_length] at hp
  obtain ⟨lot, hl, hq⟩ := List.mem_flatten.mp hp
  exact h2 lot hl p hq
theorem nm_frs {s : Sto} {N P : Nat} {frs : List Fra} (h : s.Nm N P) (hs : ∀ f ∈ frs, f.num.natAbs ≤ N) : ({ s with frs := frs } : Sto).Nm N P := { h with fr := hs }
theorem nm_put {s : Sto} {N P : Nat} {w : Option (Int × Int)} (h : s.Nm N P) (hw : ∀ p, w = some p → p.2.natAbs ≤ N) : ({ s with q := s.q.put1 w } : Sto).Nm N (P + 1) := by
  have hp := h.put
  refine { h with rq := ?_, cn := ?_, put := ?_ }
  · intro r hr p e
    simp only [Que.put1, List.mem_append, List.mem_singleton] at hr
    rcases hr with hr | rfl
    · exact h.rq r hr p e
    · exact hw p e
  · intro r hr
    simp only [Que.put1, List.mem_append, List.mem_singleton] at hr
    rcases hr with hr | rfl
    · exact h.cn r hr
    · exact hp.1
  · show 0 ≤ s.q.put + 1 ∧ s.q.put + 1 ≤ ((P + 1 : Nat) : Int)
    omega
theorem nm_clean {s : Sto} {N P : Nat} (h : s.Nm N P) (i : Nat) : (s.clean i).Nm N (P + 1) := by
  unfold Sto.clean
  cases e : s.frs[i]? with
  | none => exact h.mono (by omega)
  | some f =>
    have hm := List.mem_of_getElem? e
    refine nm_frs (s := { s with q := s.q.put1 (some (f.room, f.num)) }) (nm_put h ?_) ?_
    · rintro p hp
      cases hp
      exact h.fr f hm
    · intro g hg
      rcases List.mem_or_eq_of_mem_set hg with hg | rfl
      · exact h.fr g hg
      · exact h.fr f hm
theorem nm_leave {s : Sto} {N P : Nat} (h : s.Nm N P) : s.leave.Nm N (P + 1) := by
  unfold Sto.leave
  split
  · exact (nm_frs h fun f hf => h.fr f (mem_others hf)).mono (by omega)
  · split
    · exact h.mono (by omega)
    · exact nm_frs (nm_clean h 0) fun f hf => (nm_clean h 0).fr f (mem_others hf)
theorem nm_mid {s : Sto} {N P : Nat} (h : s.Nm N P) (room : Int) : (s.mid room).Nm N (P + 1) := by
  unfold Sto.mid
  split
  · split
    · exact nm_leave h
    · exact h.mono (by omega)
  · exact h.mono (by omega)
theorem nm_look {s : Sto} {N P : Nat} (h : s.Nm N P) (room : Int) : (s.look room).natAbs ≤ N := by
  unfold Sto.look
  split
  · cases e : s.d.shown[room.toNat]? with
    | none => exact Nat.zero_le _
    | some x => exact shown_all h.sure h.lots x (List.mem_of_getElem? e)
  · rename_i r hr
    have hm := List.mem_of_getLast? hr
    unfold Que.mine at hm
    have hm := (List.mem_filter.mp hm).1
    cases e : r.w with
    | none => exact Nat.zero_le _
    | some p => exact h.rq r hm p e
theorem nm_use {s : Sto} {N P : Nat} (h : s.Nm N P) (room : Int) : (s.use room).Nm N (P + 1) := by
  have hm := nm_mid h room
  unfold Sto.use
  refine nm_frs hm fun f hf => ?_
  rcases List.mem_append.mp hf with z | z
  · exact hm.fr f (mem_others z)
  · unfold Sto.found at z
    split at z
    · rw [List.mem_singleton] at z
      subst z
      exact nm_look hm room
    · exact h.fr f (List.mem_filter.mp z).1
theorem nm_mark {s : Sto} {N P : Nat} (h : s.Nm N P) (k : Nat) {num : Int} (hn : num.natAbs ≤ N) : (s.mark k num).Nm N P := by
  unfold Sto.mark
  split
  · exact h
  · refine nm_frs h fun g hg => ?_
    rcases List.mem_or_eq_of_mem_set hg with hg | rfl
    · exact h.fr g hg
    · exact hn
theorem nm_write {s : Sto} {N P : Nat} (h : s.Nm N P) (room : Int) {num : Int} (hn : num.natAbs ≤ N) : (s.write room num).Nm N (P + 2) := by
  have := nm_mark (nm_use h room) (s.useIx room) hn
  unfold Sto.write
  split
  · exact nm_clean this _
  · exact Sto.Nm.mono this (by omega)
theorem nm_wash1 {s : Sto} {N P : Nat} (h : s.Nm N P) (i : Nat) : (s.wash1 i).Nm N (P + 1) := by
  unfold Sto.wash1
  split
  · exact h.mono (by omega)
  · split
    · exact nm_clean h i
    · exact h.mono (by omega)
theorem nm_washed : ∀ (l : List Nat) {s : Sto} {N P : Nat}, s.Nm N P → (l.foldl Sto.wash1 s).Nm N (P + l.length)
  | [], s, N, P, h => h
  | i :: l, s, N, P, h => by
    have := nm_washed l (nm_wash1 h i)
    rw [List.foldl_cons, List.length_cons]
    exact this.mono (by omega)
theorem nm_order {s : Sto} {N P B : Nat} (h : s.Nm N P) (ok : s.Ok B) : s.order.Nm N (P + 9) := by
  have h1 := nm_washed s.turns h
  rw [turns_len] at h1
  have := ok.nf
  have := ok.mf
  exact (nm_put h1 (fun p hp => by cases hp)).mono (by omega)
theorem nm_serve {s : Sto} {N P B : Nat} (h : s.Nm N P) (ok : s.Ok B) (hne : s.q.row ≠ []) : s.serve.Nm N P := by
  obtain ⟨r, hr, e, _⟩ := serve_eq hne
  rw [e]
  have hm := List.mem_of_getElem? hr
  have sub : ∀ o ∈ (s.q.served r).row, ∃ o' ∈ s.q.row, o.cnt = o'.cnt ∧ o.w = o'.w := by
    intro o ho
    unfold Que.served at ho
    obtain ⟨o', ho', rfl⟩ := List.mem_map.mp ho
    exact ⟨o', (List.mem_filter.mp ho').1, rfl, rfl⟩
  obtain ⟨e1, e2⟩ := take_sure s.d r
  refine ⟨h.fr, ?_, ?_, h.put, ?_, ?_, ?_⟩
  · intro o ho p hp
    obtain ⟨o', h1, _, h2⟩ := sub o ho
    exact h.rq o' h1 p (h2 ▸ hp)
  · intro o ho
    obtain ⟨o', h1, h2, _⟩ := sub o ho
    rw [h2]
    exact h.cn o' h1
  · dsimp only
    unfold Dsk.take
    split
    · intro lot hl p hp
      unfold Dsk.barrier at hl
      simp only [List.mem_append, List.mem_singleton] at hl
      rcases hl with hl | rfl
      · exact h.lots lot hl p hp
      · simp at hp
    · rename_i w hw
      intro lot hl p hp
      unfold Dsk.write at hl
      rcases mem_addLast hl hp with ⟨l, h1, h2⟩ | rfl
      · exact h.lots l h1 p h2
      · exact h.rq r hm w hw
  · dsimp only
    rw [e1]
    exact h.sure
  · show 0 ≤ (s.q.served r).arm ∧ (s.q.served r).arm < 40
    unfold Que.served
    dsimp only
    have sz := ok.size
    split
    · exact h.arm
    · rename_i p hp
      have := ok.rq r hm p hp
      omega
theorem nm_drain : ∀ (n : Nat) {s : Sto} {N P B : Nat}, s.Nm N P → s.Ok B → n ≤ s.q.row.length → (drain n s).Nm N P
  | 0, s, N, P, B, h, _, _ => h
  | n + 1, s, N, P, B, h, ok, hn => by
    have hne : s.q.row ≠ [] := fun z => by
      rw [z] at hn
      simp at hn
    obtain ⟨h1, h2⟩ := serve_ok ok hne
    exact nm_drain n (nm_serve h ok hne) h1 (by omega)
theorem nm_sync {s : Sto} {N P B : Nat} (h : s.Nm N P) (ok : s.Ok B) : s.sync.Nm N (P + 9) := by
  have h1 := nm_drain _ (nm_order h ok) (order_ok ok) (Nat.le_refl _)
  exact { h1 with
    lots := fun lot hl p hp => by
      simp only [Sto.sync, Dsk.flush, List.mem_singleton] at hl
      subst hl
      simp at hp
    sure := shown_all h1.sure h1.lots }
theorem cnts_all : ∀ (n : Nat) {s : Sto} {N P B : Nat}, s.Nm N P → s.Ok B → n ≤ s.q.row.length → ∀ c ∈ cnts n s, c.natAbs ≤ P
  | 0, s, N, P, B, _, _, _, c, hc => by cases hc
  | n + 1, s, N, P, B, h, ok, hn, c, hc => by
    have hne : s.q.row ≠ [] := fun z => by
      rw [z] at hn
      simp at hn
    obtain ⟨h1, h2⟩ := serve_ok ok hne
    rw [cnts, List.mem_cons] at hc
    rcases hc with rfl | hc
    · obtain ⟨r, hr, _, e⟩ := serve_eq hne
      have hm := List.mem_of_getElem? hr
      have a1 := h.cn r hm
      have a2 := ok.ctr r hm
      have a3 := h.put
      rw [e]
      omega
    · exact cnts_all n (nm_serve h ok hne) h1 (by omega) c hc
end SY

/-! ## Prog, part P: drawn deeds -/
namespace SY
open PySem PySem.Spec PyProof.Rows L2 XB
inductive Dd where
  | read (r : Int)
  | write (r n : Int)
  | order
  | idle (m : Nat)
  | sync
def Dd.word : Dd → Str
  | .read _ => "read"
  | .write _ _ => "write"
  | .order => "order"
  | .idle _ => "idle"
  | .sync => "sync"
def Dd.one : Dd → Int
  | .read r => r
  | .write r _ => r
  | .order => 0
  | .idle m => m
  | .sync => 1
def Dd.other : Dd → Int
  | .write _ n => n
  | _ => 0
def Dd.Ok (rooms : Int) : Dd → Prop
  | .read r => 0 ≤ r ∧ r < rooms
  | .write r n => 0 ≤ r ∧ r < rooms ∧ n.natAbs ≤ 10 ^ 21
  | .idle m => m ≤ 3
  | _ => True
def Sto.act (s : Sto) : Dd → Sto
  | .read r => s.use r
  | .write r n => s.write r n
  | .order => s.order
  | .idle m => drain (min m s.q.row.length) s
  | .sync => s.sync
def Sto.tell (s : Sto) : Dd → PyData
  | .read r => .int (s.val r)
  | .idle m => .list ((cnts (min m s.q.row.length) s).map .int)
  | _ => .none
/-- the state of the draws -/
def DrawAt (H : Hp) (st a : Addr) (b n : Nat) : Prop := H st = some (.lst [.ref a, .int b, .int n])
def nums6 : List Int := [1, 2, 3, -5, 10 ^ 20, 7]
theorem num6 (i : Int) (h0 : 0 ≤ i) (h1 : i < 6) : ∃ n, atI (nums6.map V.int) i = some (.int n) ∧ n.natAbs ≤ 10 ^ 20 := by
  have : ∀ j : Fin 6, ∃ n, nums6[j.val]? = some n ∧ n.natAbs ≤ 10 ^ 20 := by decide +kernel
  obtain ⟨n, e, hn⟩ := this ⟨i.toNat, by omega⟩
  refine ⟨n, ?_, hn⟩
  have hh : (nums6.map V.int)[i.toNat]? = some (.int n) := by
    rw [List.getElem?_map, e]
    rfl
  have := atI_of hh
  rw [Int.toNat_of_nonneg h0] at this
  exact this
theorem kp_none {A : Addr → Prop} {H H' : Hp} {t : Addr} {o : HO} {st : Addr} (k : Kp (fun b => b = st) H H') (hst : H' st = some o) (h : H' t = none) : H t = none := by
  cases e : H t with
  | none => rfl
  | some u =>
    by_cases z : t = st
    · rw [z, hst] at h
      cases h
    · rw [k _ _ e z] at h
      cases h
def sp__law_deed (K : PySem.W.Frag) : Sp := fun vs H Q _ => ∃ (st a : Addr) (ns : List Int) (b n : Nat) (rooms : Int), vs = [.ref st, .int rooms] ∧ 0 < rooms ∧ DrawAt H st a b n ∧ ScrSt K H st a ns ∧
  ∀ t d n' H', d.Ok rooms → Kp (fun b => b = st) H H' → (∀ b xs, H b = some (.tup xs) → H' b = some (.tup xs)) → DrawAt H' st a b n' → H t = none → H' t = some (.tup [.str (Dd.word d), .int d.one, .int d.other]) → Q (.ref t) H'
def t__law_deed (K : PySem.W.Frag) : TS := (tSeq (tAsg (tCall (sp__law_next K) [] E0 (tCons (tVar 0) (tCons (tC (.int 12)) tNil))) (gName 2))
    (tSeq (tIfS (tTest (tOp xLt (tVar 2) (tC (.int 3)))) (tRet (tTup (tCons (tC (.str "read")) (tCons (tCall (sp__law_next K) [] E0 (tCons (tVar 0) (tCons (tVar 1) tNil))) (tCons (tC (.int 0)) tNil))))) tNext)
    (tSeq (tIfS (tTest (tOp xLt (tVar 2) (tC (.int 8)))) (tRet (tTup (tCons (tC (.str "write")) (tCons (tCall (sp__law_next K) [] E0 (tCons (tVar 0) (tCons (tVar 1) tNil))) (tCons (tOp xAdd (tOp (rIxT K) (tTup (tCons (tC (.int 1)) (tCons (tC (.int 2)) (tCons (tC (.int 3)) (tCons (tUn xNeg (tC (.int 5))) (tCons (tOp xPow (tC (.int 10)) (tC (.int 20))) (tCons (tC (.int 7)) tNil))))))) (tCall (sp__law_next K) [] E0 (tCons (tVar 0) (tCons (tC (.int 6)) tNil)))) (tCall (sp__law_next K) [] E0 (tCons (tVar 0) (tCons (tC (.int 2)) tNil)))) tNil))))) tNext)
    (tSeq (tIfS (tTest (tOp rEq (tVar 2) (tC (.int 8)))) (tRet (tTup (tCons (tC (.str "order")) (tCons (tC (.int 0)) (tCons (tC (.int 0)) tNil))))) tNext)
    (tRet (tIf (tTest (tOp xLt (tVar 2) (tC (.int 11)))) (tTup (tCons (tC (.str "idle")) (tCons (tCall (sp__law_next K) [] E0 (tCons (tVar 0) (tCons (tC (.int 4)) tNil))) (tCons (tC (.int 0)) tNil)))) (tTup (tCons (tIf (tTest (tOp rEq (tCall (sp__law_next K) [] E0 (tCons (tVar 0) (tCons (tC (.int 3)) tNil))) (tC (.int 0)))) (tC (.str "sync")) (tC (.str "idle"))) (tCons (tC (.int 1)) (tCons (tC (.int 0)) tNil))))))))))
theorem len__law_deed {K : PySem.W.Frag} (vs : List V) (H : Hp) (Q : VK) (E : XK) (h : sp__law_deed K vs H Q E) : vs.length = ["_law_state", "_law_rooms"].length := by
  unfold sp__law_deed at h
  repeat (first | (obtain ⟨e, _⟩ := h; rw [e]; done) | (obtain ⟨e, _⟩ := h; rw [e]; rfl; done) | obtain ⟨_, h⟩ := h)
theorem pure__law_deed {K : PySem.W.Frag} (pf : PF K) {vs : List V} {H : Hp} {Q : VK} {E : XK} (h : sp__law_deed K vs H Q E) : t__law_deed K { nx := fun _ H' => Q .non H', rt := Q } (start ["_law_state", "_law_rooms", "_law_sort"] vs) H := by
  obtain ⟨st, a, ns, b, n, rooms, rfl, hr, hst, hs, q⟩ := h
  refine ⟨_, rfl, st, a, ns, b, n, 12, rfl, by decide, hst, hs, fun i H1 i0 i1 k1 t1 d1 => ?_⟩
  have hs1 := hs.kp k1
  -- the tuple at the end
  have fin : ∀ d H2 n2, Dd.Ok rooms d → Kp (fun b => b = st) H H2 → (∀ b xs, H b = some (.tup xs) → H2 b = some (.tup xs)) → DrawAt H2 st a b n2 → ∀ t, H2 t = none → Q (.ref t) (upd H2 t (.tup [.str d.word, .int d.one, .int d.other])) := by
    intro d H2 n2 hd k2 t2 d2 t ht
    have htH : H t = none := kp_none (A := fun _ => False) k2 d2 ht
    refine q t d n2 _ hd (k2.upd (.inr htH)) (fun b xs e => ?_) ?_ htH upd_same
    · rw [upd_ne (ne_of_none (t2 b xs e) ht)]
      exact t2 b xs e
    · show upd _ t _ st = _
      rw [upd_ne (ne_of_none d2 ht)]
      exact d2
  refine ⟨_, rfl, _, _, rfl, rfl, _, rfl, ?_⟩
  by_cases c1 : i < 3
  · refine iteY (decide_eq_true c1) ?_
    refine ⟨_, rfl, _, rfl, st, a, ns, b, n + 1, rooms, rfl, hr, d1, hs1, fun r H2 r0 r1 k2 t2 d2 => ?_⟩
    exact ⟨of_decide_eq_true rfl, fun t ht => fin (.read r) H2 _ ⟨r0, r1⟩ (k1.trans k2) (fun b xs e => t2 b xs (t1 b xs e)) d2 t ht⟩
  refine iteN (decide_eq_false c1) ?_
  refine ⟨_, rfl, _, _, rfl, rfl, _, rfl, ?_⟩
  by_cases c2 : i < 8
  · refine iteY (decide_eq_true c2) ?_
    refine ⟨_, rfl, _, rfl, st, a, ns, b, n + 1, rooms, rfl, hr, d1, hs1, fun r H2 r0 r1 k2 t2 d2 => ?_⟩
    have hs2 := hs1.kp k2
    refine ⟨_, rfl, _, _, rfl, rfl, ⟨by decide, by decide, by decide⟩, of_decide_eq_true rfl, fun u hu => ?_⟩
    have u2 := same_upd (o := .tup [.int 1, .int 2, .int 3, .int (-5), .int (10 ^ (20 : Int).toNat), .int 7]) hu
    have hs3 := hs2.same u2
    refine ⟨_, rfl, st, a, ns, b, n + 2, 6, rfl, by decide, u2 _ _ d2, hs3, fun j H3 j0 j1 k3 t3 d3 => ?_⟩
    obtain ⟨num, hnum, hb⟩ := num6 j j0 j1
    refine ⟨u, nums6.map V.int, j, .int num, rfl, rfl, SqT.of (t3 _ _ upd_same), hnum, ?_⟩
    have hs4 := hs3.kp k3
    refine ⟨_, rfl, st, a, ns, b, n + 3, 2, rfl, by decide, d3, hs4, fun j2 H4 j20 j21 k4 t4 d4 => ?_⟩
    refine ⟨_, _, rfl, rfl, of_decide_eq_true rfl, fun t ht => ?_⟩
    refine fin (.write r (num + j2)) H4 _ ⟨r0, r1, by omega⟩ (k1.trans (k2.trans ((Kp.same u2).trans (k3.trans k4)))) (fun b xs e => t4 b xs (t3 b xs (u2 _ _ (t2 b xs (t1 b xs e))))) d4 t ht
  refine iteN (decide_eq_false c2) ?_
  refine ⟨_, rfl, rfl, _, rfl, ?_⟩
  by_cases c3 : i = 8
  · subst c3
    refine iteT ?_
    exact ⟨of_decide_eq_true rfl, fun t ht => fin .order H1 _ trivial k1 t1 d1 t ht⟩
  refine iteN (by rw [rooms_bl2]; exact decide_eq_false c3) ?_
  refine ⟨_, rfl, _, _, rfl, rfl, _, rfl, ?_⟩
  by_cases c4 : i < 11
  · refine iteY (decide_eq_true c4) ?_
    refine ⟨_, rfl, st, a, ns, b, n + 1, 4, rfl, by decide, d1, hs1, fun m H2 m0 m1 k2 t2 d2 => ?_⟩
    refine ⟨of_decide_eq_true rfl, fun t ht => ?_⟩
    have := fin (.idle m.toNat) H2 _ (show m.toNat ≤ 3 by omega) (k1.trans k2) (fun b xs e => t2 b xs (t1 b xs e)) d2 t ht
    have e : (Dd.idle m.toNat).one = m := Int.toNat_of_nonneg m0
    rw [e] at this
    exact this
  refine iteN (decide_eq_false c4) ?_
  refine ⟨_, rfl, st, a, ns, b, n + 1, 3, rfl, by decide, d1, hs1, fun m H2 m0 m1 k2 t2 d2 => ?_⟩
  refine ⟨rfl, _, rfl, ?_⟩
  by_cases c5 : m = 0
  · subst c5
    refine iteT ?_
    exact ⟨of_decide_eq_true rfl, fun t ht => fin .sync H2 _ trivial (k1.trans k2) (fun b xs e => t2 b xs (t1 b xs e)) d2 t ht⟩
  · refine iteN (by rw [rooms_bl2]; exact decide_eq_false c5) ?_
    exact ⟨of_decide_eq_true rfl, fun t ht => fin (.idle 1) H2 _ (show 1 ≤ 3 by decide) (k1.trans k2) (fun b xs e => t2 b xs (t1 b xs e)) d2 t ht⟩
theorem act_ok {s : Sto} {B : Nat} {d : Dd} (h : s.Ok B) (hd : d.Ok s.d.sure.length) : (s.act d).Ok (B + 9) := by
  cases d with
  | read r => exact (use_ok h hd.1 hd.2).mono (by omega)
  | write r n => exact (write_ok h hd.1 hd.2.1 n).mono (by omega)
  | order => exact order_ok h
  | idle m => exact (drain_ok _ h (Nat.min_le_right _ _)).1.mono (by omega)
  | sync => exact sync_ok h
theorem act_nm {s : Sto} {N P B : Nat} {d : Dd} (h : s.Nm N P) (ok : s.Ok B) (hd : d.Ok s.d.sure.length) (hN : 10 ^ 21 ≤ N) : (s.act d).Nm N (P + 9) := by
  cases d with
  | read r => exact (nm_use h r).mono (by omega)
  | write r n => exact (nm_write h r (Nat.le_trans hd.2.2 hN)).mono (by omega)
  | order => exact nm_order h ok
  | idle m => exact (nm_drain _ h ok (Nat.min_le_right _ _)).mono (by omega)
  | sync => exact nm_sync h ok
theorem write_sure (s : Sto) (room num : Int) : (s.write room num).d = s.d := by
  have e : (s.marked room num).d = s.d := by
    unfold Sto.marked Sto.mark
    split
    · exact mid_d s room
    · exact mid_d s room
  unfold Sto.write
  split
  · rw [(clean_d _ _).1, e]
  · exact e
theorem drain_sure : ∀ (n : Nat) (s : Sto), (drain n s).d.sure = s.d.sure
  | 0, s => rfl
  | n + 1, s => by
    rw [drain, drain_sure n s.serve]
    unfold Sto.serve
    split
    · rfl
    · exact (take_sure _ _).1
theorem act_rooms (s : Sto) (d : Dd) : (s.act d).d.sure.length = s.d.sure.length := by
  cases d with
  | read r =>
    show (s.mid r).d.sure.length = _
    rw [mid_d]
  | write r n => rw [Sto.act, write_sure]
  | order =>
    show s.washed.d.sure.length = _
    unfold Sto.washed
    rw [(washed_d _ _).1]
  | idle m => rw [Sto.act, drain_sure]
  | sync =>
    show s.order.drained.d.shown.length = _
    rw [Dsk.shown_len]
    unfold Sto.drained
    rw [drain_sure]
    show s.washed.d.sure.length = _
    unfold Sto.washed
    rw [(washed_d _ _).1]
theorem val_nm {s : Sto} {N P : Nat} (h : s.Nm N P) (room : Int) : (s.val room).natAbs ≤ N := by
  unfold Sto.val
  cases e : (s.use room).frs[s.useIx room]? with
  | none => exact Nat.zero_le _
  | some f => exact (nm_use h room).fr f (List.mem_of_getElem? e)
theorem tell_fit {s : Sto} {N P B : Nat} {d : Dd} (h : s.Nm N P) (ok : s.Ok B) (hd : d.Ok s.d.sure.length) (hN : N < 10 ^ 22) (hP : P < 10 ^ 22) : Fit (s.tell d) 1 999 := by
  cases d with
  | read r => exact (Fit.int (Nat.lt_of_le_of_lt (val_nm h r) hN)).mono (by omega) (by omega)
  | write r n => exact Fit.none.mono (by omega) (by omega)
  | order => exact Fit.none.mono (by omega) (by omega)
  | sync => exact Fit.none.mono (by omega) (by omega)
  | idle m =>
    refine (Fit.list (k := 0) (c := 0) (n := 999) (fun x hx => ?_) ?_).mono (by omega) (by omega)
    · obtain ⟨c, hc, rfl⟩ := List.mem_map.mp hx
      exact Fit.int (Nat.lt_of_le_of_lt (cnts_all _ h ok (Nat.min_le_right _ _) c hc) hP)
    · rw [List.length_map, cnts_len]
      have : m ≤ 3 := hd
      omega
/-! ### several stores side by side -/
def foots (Ls : List SL) : List Addr := (Ls.map SL.foot).flatten
structure Stos (K : PySem.W.Frag) (H : Hp) (Ls : List SL) (ss : List Sto) : Prop where
  at_ : All2 (StoAt K H) Ls ss
  nd : (foots Ls).Nodup
theorem foots_mem {Ls : List SL} {L : SL} {b : Addr} (h : L ∈ Ls) (hb : b ∈ L.foot) : b ∈ foots Ls := List.mem_flatten.mpr ⟨L.foot, List.mem_map.mpr ⟨L, h, rfl⟩, hb⟩
theorem mem_foots {Ls : List SL} {b : Addr} (h : b ∈ foots Ls) : ∃ L ∈ Ls, b ∈ L.foot := by
  obtain ⟨l, hl, hb⟩ := List.mem_flatten.mp h
  obtain ⟨L, hL, rfl⟩ := List.mem_map.mp hl
  exact ⟨L, hL, hb⟩
theorem Stos.same {K : PySem.W.Frag} {H H' : Hp} {Ls : List SL} {ss : List Sto} (h : Stos K H Ls ss) (s : Same H H') : Stos K H' Ls ss := ⟨h.at_.imp fun L t _ _ r => r.same s, h.nd⟩
theorem Stos.step {K : PySem.W.Frag} {H H' : Hp} {Ls : List SL} {ss : List Sto} {A A' : List Addr} (h : Stos K H Ls ss) (k : Step A A' H H') (no : ∀ b, b ∈ foots Ls → b ∉ A) : Stos K H' Ls ss :=
  ⟨h.at_.imp fun L t hL _ r => r.step k fun b hb => no b (foots_mem hL hb), h.nd⟩
theorem Stos.has {K : PySem.W.Frag} {H : Hp} {Ls : List SL} {ss : List Sto} (h : Stos K H Ls ss) {b : Addr} (hb : b ∈ foots Ls) : H b ≠ none := by
  obtain ⟨L, hL, hb⟩ := mem_foots hb
  obtain ⟨s, _, r⟩ := h.at_.mem hL
  exact r.has hb
theorem Stos.turn {K : PySem.W.Frag} {H H' : Hp} {Ls : List SL} {ss : List Sto} {i : Nat} {L L' : SL} {s' : Sto} (h : Stos K H Ls ss) (hi : Ls[i]? = some L) (k : Step L.foot L'.foot H H') (h' : StoAt K H' L' s') :
    Stos K H' (Ls.set i L') (ss.set i s') ∧ Step (foots Ls) (foots (Ls.set i L')) H H' := by
  have hlt := (List.getElem?_eq_some_iff.mp hi).1
  have e0 : Ls = Ls.take i ++ L :: Ls.drop (i + 1) := by
    conv => lhs; rw [← List.take_append_drop i Ls]
    rw [← List.getElem_cons_drop hlt, (List.getElem?_eq_some_iff.mp hi).2]
  have e1 : Ls.set i L' = Ls.take i ++ L' :: Ls.drop (i + 1) := by
    conv => lhs; rw [e0]
    have l : (Ls.take i).length = i := by
      rw [List.length_take]
      omega
    rw [List.set_append_right _ _ (by omega), l, Nat.sub_self]
    rfl
  have f0 : foots Ls = foots (Ls.take i) ++ (L.foot ++ foots (Ls.drop (i + 1))) := by
    conv => lhs; rw [e0]
    unfold foots
    simp
  have f1 : foots (Ls.set i L') = foots (Ls.take i) ++ (L'.foot ++ foots (Ls.drop (i + 1))) := by
    rw [e1]
    unfold foots
    simp
  have hm := List.mem_of_getElem? hi
  have nd := h.nd
  rw [f0] at nd
  have nd2 : (L.foot ++ (foots (Ls.take i) ++ foots (Ls.drop (i + 1)))).Nodup := by
    refine (List.Perm.nodup_iff ?_).mp nd
    rw [← List.append_assoc, ← List.append_assoc]
    exact List.perm_append_comm.append_right _
  have hB : ∀ b, b ∈ foots (Ls.take i) ++ foots (Ls.drop (i + 1)) → H b ≠ none := fun b hb => h.has (by
    rw [f0]
    simp only [List.mem_append] at hb ⊢
    rcases hb with hb | hb
    · exact .inl hb
    · exact .inr (.inr hb))
  have nd3 := nd_step k nd2 h'.nd hB
  have nd4 := (List.nodup_append.mp nd2).2.2
  refine ⟨⟨?_, ?_⟩, ?_⟩
  · have lss := h.at_.len
    obtain ⟨s0, hs0, _⟩ := h.at_.get hi
    have es : ss = ss.take i ++ s0 :: ss.drop (i + 1) := by
      conv => lhs; rw [← List.take_append_drop i ss]
      rw [← List.getElem_cons_drop (by omega), (List.getElem?_eq_some_iff.mp hs0).2]
    have tk : ∀ {α β : Type} {R : α → β → Prop} {xs : List α} {ys : List β} (n : Nat), All2 R xs ys → All2 R (xs.take n) (ys.take n) ∧ All2 R (xs.drop n) (ys.drop n) := by
      intro α β R xs ys n h
      induction h generalizing n with
      | nil => simp; exact .nil
      | cons r t ih =>
        cases n with
        | zero => simp; exact ⟨.nil, .cons r t⟩
        | succ n => simp; exact ⟨.cons r (ih n).1, (ih n).2⟩
    have e2 : ss.set i s' = ss.take i ++ s' :: ss.drop (i + 1) := by
      conv => lhs; rw [es]
      have l : (ss.take i).length = i := by
        rw [List.length_take]
        omega
      rw [List.set_append_right _ _ (by omega), l, Nat.sub_self]
      rfl
    rw [e1, e2]
    refine ((tk i h.at_).1.imp fun M t hM _ r => r.step k fun b hb z => ?_).append (.cons h' ((tk (i + 1) h.at_).2.imp fun M t hM _ r => r.step k fun b hb z => ?_))
    · exact nd4 b z b (List.mem_append_left _ (foots_mem hM hb)) rfl
    · exact nd4 b z b (List.mem_append_right _ (foots_mem hM hb)) rfl
  · rw [f1]
    refine (List.Perm.nodup_iff ?_).mp nd3
    rw [← List.append_assoc, ← List.append_assoc]
    exact List.perm_append_comm.append_right _
  · rw [f0, f1]
    refine k.frame (fun b hb => by simp [hb]) fun b hb => ?_
    simp only [List.mem_append] at hb ⊢
    rcases hb with hb | hb | hb
    · exact .inr (.inl hb)
    · exact .inl hb
    · exact .inr (.inr (.inr hb))
/-! ### what looks tell, as data -/
def pairD (p : Int × Int) : PyData := .tuple [.int p.1, .int p.2]
def lotD (l : List (Int × Int)) : PyData := .list (l.map pairD)
def intsD (l : List Int) : PyData := .list (l.map .int)
def wroomD : Option (Int × Int) → PyData
  | none => .none
  | some p => .int p.1
def wnumD : Option (Int × Int) → PyData
  | none => .none
  | some p => .int p.2
def heldD (s : Sto) : PyData := .list (s.frs.map fun f => .tuple [.int f.room, .int f.num, .bool f.dirty])
def queueD (s : Sto) : PyData := .list (s.q.row.map fun r => .tuple [.int r.cnt, wroomD r.w, wnumD r.w])
def lotsD (d : Dsk) : PyData := .list (d.lots.map lotD)
section
variable {K : PySem.W.Frag} {H : Hp}
theorem dp_room (w : Option (Int × Int)) : Dp K H (roomV w) (wroomD w) := by
  cases w with
  | none => exact .non
  | some p => exact .int _
theorem dp_num (w : Option (Int × Int)) : Dp K H (numV w) (wnumD w) := by
  cases w with
  | none => exact .non
  | some p => exact .int _
theorem dp_map {α : Type} {f : α → PyData} {R : α → V → Prop} (h : ∀ a v, R a v → Dp K H v (f a)) : ∀ {xs : List α} {vs : List V}, All2 R xs vs → DpAll K H vs (xs.map f)
  | _, _, .nil => .nil
  | _, _, .cons r t => .cons (h _ _ r) (dp_map h t)
theorem dp_ints : ∀ l : List Int, DpAll K H (l.map V.int) (l.map .int)
  | [] => .nil
  | i :: l => .cons (.int i) (dp_ints l)
theorem dp_intl {p : Addr} {l : List Int} (e : H p = some (.lst (l.map V.int))) : Dp K H (.ref p) (intsD l) := .lst (SqL.of e) (dp_ints l)
theorem dp_held {p : Addr} {vs : List V} {s : Sto} (e : H p = some (.lst vs)) (h : All2 (fun f v => heldT f v H) s.frs vs) : Dp K H (.ref p) (heldD s) :=
  .lst (SqL.of e) (dp_map (fun f v ⟨t, ev, ht⟩ => ev ▸ .tup (SqT.of ht) (.cons (.int _) (.cons (.int _) (.cons (.bl _) .nil)))) h)
theorem dp_queue {p : Addr} {vs : List V} {s : Sto} (e : H p = some (.lst vs)) (h : All2 (fun r v => askT r v H) s.q.row vs) : Dp K H (.ref p) (queueD s) :=
  .lst (SqL.of e) (dp_map (fun f v ⟨t, ev, ht⟩ => ev ▸ .tup (SqT.of ht) (.cons (.int _) (.cons (dp_room _) (.cons (dp_num _) .nil)))) h)
theorem dp_pairs : ∀ {ts : List Addr} {l : List (Int × Int)}, All2 (TupAt H) ts l → DpAll K H (ts.map V.ref) (l.map pairD)
  | _, _, .nil => .nil
  | _, _, .cons r t => .cons (.tup (SqT.of r) (.cons (.int _) (.cons (.int _) .nil))) (dp_pairs t)
theorem dp_lot {a : Addr} {l : List (Int × Int)} (h : LotAt H a l) : Dp K H (.ref a) (lotD l) := by
  obtain ⟨ts, e, t⟩ := h
  exact .lst (SqL.of e) (dp_pairs t)
theorem dp_lots : ∀ {ps : List Addr} {ls : List (List (Int × Int))}, All2 (LotAt H) ps ls → DpAll K H (ps.map V.ref) (ls.map lotD)
  | _, _, .nil => .nil
  | _, _, .cons r t => .cons (dp_lot r) (dp_lots t)
theorem dp_same {H' : Hp} (k : Same H H') : ∀ (d : PyData) (v : V), Dp K H v d → Dp K H' v d := by
  have hl : ∀ {a xs}, SqL K H a xs → SqL K H' a xs := fun h => k.seq h
  have ht : ∀ {a xs}, SqT K H a xs → SqT K H' a xs := fun h => by
    rcases h with (h | ⟨o, h⟩) | h
    · exact .inl (.inl (k _ _ h))
    · exact .inl (.inr ⟨o, k _ _ h⟩)
    · exact .inr h
  intro d v h
  refine Dp.rec (motive_1 := fun v d _ => Dp K H' v d) (motive_2 := fun vs ds _ => DpAll K H' vs ds) ?_ ?_ ?_ ?_ ?_ ?_ ?_ ?_ h
  · exact .non
  · exact fun b => .bl b
  · exact fun i => .int i
  · exact fun x => .str x
  · exact fun h1 _ h2 => .lst (hl h1) h2
  · exact fun h1 _ h2 => .tup (ht h1) h2
  · exact .nil
  · exact fun _ _ h1 h2 => .cons h1 h2
end
theorem fit_pairs {l : List (Int × Int)} {N n : Nat} (hN : N < 10 ^ 22) (h : ∀ p ∈ l, p.1.natAbs < 10 ^ 22 ∧ p.2.natAbs ≤ N) (hn : l.length ≤ n) : Fit (lotD l) 2 (n * 3) := by
  refine Fit.list (k := 1) (c := 2) (fun x hx => ?_) (by rw [List.length_map]; exact hn)
  obtain ⟨p, hp, rfl⟩ := List.mem_map.mp hx
  refine Fit.tuple (k := 0) (c := 0) (n := 2) (fun y hy => ?_) (Nat.le_refl _)
  simp only [List.mem_cons, List.not_mem_nil, or_false] at hy
  rcases hy with rfl | rfl
  · exact Fit.int (h p hp).1
  · exact Fit.int (Nat.lt_of_le_of_lt (h p hp).2 hN)
theorem fit_ints {l : List Int} {N n : Nat} (hN : N < 10 ^ 22) (h : ∀ x ∈ l, x.natAbs ≤ N) (hn : l.length ≤ n) : Fit (intsD l) 1 (n * 1) := by
  refine Fit.list (k := 0) (c := 0) (fun x hx => ?_) (by rw [List.length_map]; exact hn)
  obtain ⟨p, hp, rfl⟩ := List.mem_map.mp hx
  exact Fit.int (Nat.lt_of_le_of_lt (h p hp) hN)
theorem fit_held {s : Sto} {N P B : Nat} (h : s.Nm N P) (ok : s.Ok B) (hN : N < 10 ^ 22) : Fit (heldD s) 2 (8 * 4) := by
  have hnf := ok.nf
  have hmf := ok.mf
  have sz := ok.size
  refine Fit.list (k := 1) (c := 3) (fun x hx => ?_) (by rw [List.length_map]; omega)
  obtain ⟨f, hf, rfl⟩ := List.mem_map.mp hx
  have hr := ok.fr f hf
  refine Fit.tuple (k := 0) (c := 0) (n := 3) (fun y hy => ?_) (Nat.le_refl _)
  simp only [List.mem_cons, List.not_mem_nil, or_false] at hy
  rcases hy with rfl | rfl | rfl
  · exact Fit.int (Nat.lt_of_le_of_lt (by omega : f.room.natAbs ≤ 40) (by decide))
  · exact Fit.int (Nat.lt_of_le_of_lt (h.fr f hf) hN)
  · exact Fit.bool _
theorem fit_queue {s : Sto} {N P B : Nat} (h : s.Nm N P) (ok : s.Ok B) (hN : N < 10 ^ 22) (hP : P < 10 ^ 22) : Fit (queueD s) 2 (B * 4) := by
  have sz := ok.size
  have wr := ok.wear
  refine Fit.list (k := 1) (c := 3) (fun x hx => ?_) (by rw [List.length_map]; omega)
  obtain ⟨r, hr, rfl⟩ := List.mem_map.mp hx
  refine Fit.tuple (k := 0) (c := 0) (n := 3) (fun y hy => ?_) (Nat.le_refl _)
  simp only [List.mem_cons, List.not_mem_nil, or_false] at hy
  rcases hy with rfl | rfl | rfl
  · have a1 := h.cn r hr
    have a2 := ok.ctr r hr
    have a3 := h.put
    exact Fit.int (by omega)
  · cases e : r.w with
    | none => exact Fit.none
    | some p =>
      have := ok.rq r hr p e
      exact Fit.int (Nat.lt_of_le_of_lt (by omega : p.1.natAbs ≤ 40) (by decide))
  · cases e : r.w with
    | none => exact Fit.none
    | some p => exact Fit.int (Nat.lt_of_le_of_lt (h.rq r hr p e) hN)
theorem fit_lots {s : Sto} {N P B : Nat} (h : s.Nm N P) (ok : s.Ok B) (hN : N < 10 ^ 22) : Fit (lotsD s.d) 3 (B * (B * 3 + 1)) := by
  have sz := ok.size
  have wr := ok.wear
  refine Fit.list (k := 2) (c := B * 3) (fun x hx => ?_) (by rw [List.length_map]; omega)
  obtain ⟨l, hl, rfl⟩ := List.mem_map.mp hx
  refine fit_pairs hN (fun p hp => ?_) ?_
  · have := ok.drooms l hl p hp
    exact ⟨Nat.lt_of_le_of_lt (by omega : p.1.natAbs ≤ 40) (by decide), h.lots l hl p hp⟩
  · obtain ⟨l1, l2, e⟩ := List.append_of_mem hl
    have : l.length ≤ s.d.lots.flatten.length := by
      rw [e, List.flatten_append, List.length_append, List.flatten_cons, List.length_append]
      omega
    omega
end SY

/-! ## the law k13 -/
namespace SY
open PySem PySem.Spec PyProof.Rows L2 XB
def dv_Store_init (K : PySem.W.Frag) : List V := [.int 4, .int 2, .int 3]
def dv_Store_idle (K : PySem.W.Frag) : List V := [.int 1]
def kg_Store_idle_many (us ws : List V) : List V := (us) ++ ((ws.drop 0).take 1)
def kg_Store_frames_dirty_patience (us ws : List V) : List V := (us) ++ ((ws.drop 0).take 1) ++ ((ws.drop 1).take 1) ++ ((ws.drop 2).take 1)
def kg_Store_patience_dirty_frames (us ws : List V) : List V := (us) ++ ((ws.drop 2).take 1) ++ ((ws.drop 1).take 1) ++ ((ws.drop 0).take 1)
theorem dvec {b : Bool} {x y : V} (h : decide (x = y) = b) : decide (x = y) = b := h
def sp__law_ask (K : PySem.W.Frag) : Sp := fun vs H Q _ => ∃ L s B t d, vs = [.ref L.st, .ref t] ∧ StoAt K H L s ∧ s.Ok B ∧ B ≤ 800000 ∧ d.Ok s.d.sure.length ∧ H t = some (.tup [.str (Dd.word d), .int d.one, .int d.other]) ∧
  ∀ L' H' v, StoAt K H' L' (s.act d) → L'.st = L.st → L'.d.d = L.d.d → Step L.foot L'.foot H H' → Dp K H' v (s.tell d) → (∀ b, v ≠ .bl b) → Q v H'
def t__law_ask (K : PySem.W.Frag) : TS := (tSeq (tAsg (tVar 1) (gTup K 3 (gCons (gName 2) (gCons (gName 3) (gCons (gName 4) gNil)))))
    (tSeq (tIfS (tTest (tOp rEq (tVar 2) (tC (.str "read")))) (tRet (tMeth (He.ga K "Store") "read" (sp_Store_read K) [] E0 (tVar 0) (tCons (tVar 3) tNil))) tNext)
    (tSeq (tIfS (tTest (tOp rEq (tVar 2) (tC (.str "write")))) (tRet (tMeth (He.ga K "Store") "write" (sp_Store_write K) [] E0 (tVar 0) (tCons (tVar 3) (tCons (tVar 4) tNil)))) tNext)
    (tSeq (tIfS (tTest (tOp rEq (tVar 2) (tC (.str "order")))) (tRet (tMeth (He.ga K "Store") "order" (sp_Store_order K) [] E0 (tVar 0) tNil)) tNext)
    (tSeq (tIfS (tTest (tOp rEq (tVar 2) (tC (.str "sync")))) (tRet (tMeth (He.ga K "Store") "sync" (sp_Store_sync K) [] E0 (tVar 0) tNil)) tNext)
    (tRet (tIf (tTest (tOp rNe (tVar 3) (tC (.int 1)))) (tMethK (He.ga K "Store") "idle" 1 (sp_Store_idle K) kg_Store_idle_many E0 (tVar 0) (tCons (tVar 3) tNil)) (tMeth (He.ga K "Store") "idle" (sp_Store_idle K) (dv_Store_idle K) E0 (tVar 0) tNil))))))))
theorem len__law_ask {K : PySem.W.Frag} (vs : List V) (H : Hp) (Q : VK) (E : XK) (h : sp__law_ask K vs H Q E) : vs.length = ["_law_store", "_law_deed_here"].length := by
  unfold sp__law_ask at h
  repeat (first | (obtain ⟨e, _⟩ := h; rw [e]; done) | (obtain ⟨e, _⟩ := h; rw [e]; rfl; done) | obtain ⟨_, h⟩ := h)
theorem pure__law_ask {K : PySem.W.Frag} (pf : PF K) {vs : List V} {H : Hp} {Q : VK} {E : XK} (h : sp__law_ask K vs H Q E) : t__law_ask K { nx := fun _ H' => Q .non H', rt := Q } (start ["_law_store", "_law_deed_here", "_law_word", "_law_one", "_law_other"] vs) H := by
  obtain ⟨L, s, B, t, d, rfl, h, ok, hB, hd, ht, q⟩ := h
  obtain ⟨dx, ho⟩ := h.ob
  refine ⟨_, rfl, t, _, rfl, SqT.of ht, rfl, _, _, rfl, _, _, rfl, _, _, rfl, rfl, ?_⟩
  cases d with
  | read r =>
    refine ⟨_, rfl, rfl, _, rfl, iteY rfl ?_⟩
    exact ⟨_, rfl, L.st, dx, _, rfl, ho, rfl, _, rfl, L, s, r, B, rfl, h, ok, by omega, hd.1, hd.2, fun L' H' h' e1 e2 e3 k => q L' H' _ h' e1 (by rw [e2]) k (.int _) (fun b z => by cases z)⟩
  | write r n =>
    refine ⟨_, rfl, rfl, _, rfl, iteN rfl ?_⟩
    refine ⟨_, rfl, rfl, _, rfl, iteY rfl ?_⟩
    exact ⟨_, rfl, L.st, dx, _, rfl, ho, rfl, _, rfl, _, rfl, L, s, r, n, B, rfl, h, ok, by omega, hd.1, hd.2.1, fun L' H' h' e1 e2 e3 k => q L' H' _ h' e1 (by rw [e2]) k .non (fun b z => by cases z)⟩
  | order =>
    refine ⟨_, rfl, rfl, _, rfl, iteN rfl ?_⟩
    refine ⟨_, rfl, rfl, _, rfl, iteN rfl ?_⟩
    refine ⟨_, rfl, rfl, _, rfl, iteY rfl ?_⟩
    exact ⟨_, rfl, L.st, dx, _, rfl, ho, rfl, L, s, B, rfl, h, ok, by omega, fun L' H' h' e1 e2 e3 k => q L' H' _ h' e1 (by rw [e2]) k .non (fun b z => by cases z)⟩
  | sync =>
    refine ⟨_, rfl, rfl, _, rfl, iteN rfl ?_⟩
    refine ⟨_, rfl, rfl, _, rfl, iteN rfl ?_⟩
    refine ⟨_, rfl, rfl, _, rfl, iteN rfl ?_⟩
    refine ⟨_, rfl, rfl, _, rfl, iteY rfl ?_⟩
    exact ⟨_, rfl, L.st, dx, _, rfl, ho, rfl, L, s, B, rfl, h, ok, by omega, fun L' H' h' e1 e2 e3 k => q L' H' _ h' e1 e2 k .non (fun b z => by cases z)⟩
  | idle m =>
    refine ⟨_, rfl, rfl, _, rfl, iteN rfl ?_⟩
    refine ⟨_, rfl, rfl, _, rfl, iteN rfl ?_⟩
    refine ⟨_, rfl, rfl, _, rfl, iteN rfl ?_⟩
    refine ⟨_, rfl, rfl, _, rfl, iteN rfl ?_⟩
    have hm : m ≤ 3 := hd
    refine ⟨_, rfl, rfl, _, rfl, ?_⟩
    rw [rooms_bl]
    have dps : ∀ {H' : Hp} {p : Addr} {cs : List Int}, H' p = some (.lst (cs.map V.int)) → Dp K H' (.ref p) (.list (cs.map .int)) := fun {H' p cs} e => by
      refine .lst (SqL.of e) ?_
      clear e
      induction cs with
      | nil => exact .nil
      | cons c cs ih => exact .cons (.int c) ih
    by_cases c1 : (m : Int) = 1
    · refine iteN (by rw [show (Dd.idle m).one = (m : Int) from rfl, decide_eq_true c1]; rfl) ?_
      exact ⟨_, rfl, L.st, dx, _, rfl, ho, rfl, L, s, B, m, by rw [c1]; rfl, h, ok, by omega, by omega, fun L' H' p h' e1 e2 e3 k hp hv hn => q L' H' _ h' e1 e2 k (dps hv) (fun b z => by cases z)⟩
    · refine iteY (by rw [show (Dd.idle m).one = (m : Int) from rfl, decide_eq_false c1]; rfl) ?_
      exact ⟨_, rfl, L.st, dx, _, rfl, ho, rfl, _, rfl, rfl, L, s, B, m, rfl, h, ok, by omega, by omega, fun L' H' p h' e1 e2 e3 k hp hv hn => q L' H' _ h' e1 e2 k (dps hv) (fun b z => by cases z)⟩
def sp_law (K : PySem.W.Frag) : Sp := fun vs H Q _ => ∃ (a : Addr) (ns : List Int), vs = [.ref a] ∧ SqL K H a (ns.map V.int) ∧ ns.length ≤ 63 ∧ ∀ H', Q (.bl true) H'
theorem law_start {K : PySem.W.Frag} {H : Hp} {a : Addr} {ns : List Int} (hl : ns.length ≤ 63) (hS : SqL K H a (ns.map V.int)) : sp_law K [.ref a] H (fun v _ => v = .bl true) fun _ _ _ => False :=
  ⟨a, ns, rfl, hS, hl, fun _ => rfl⟩
/-- n states, the first i of which have acted -/
def mixS (s s' : Sto) (n i : Nat) : List Sto := (List.range n).map fun j => if j < i then s' else s
theorem mix_set (s s' : Sto) (n i : Nat) : (mixS s s' n i).set i s' = mixS s s' n (i + 1) := by
  refine List.ext_getElem? fun j => ?_
  unfold mixS
  rw [List.getElem?_set, List.getElem?_map, List.getElem?_map, List.length_map, List.length_range]
  by_cases hj : j < n
  · rw [List.getElem?_range hj]
    by_cases e : i = j
    · subst e
      simp [hj]
    · rw [if_neg e]
      have : (j < i) ↔ (j < i + 1) := by omega
      simp [this]
  · rw [List.getElem?_eq_none (by rw [List.length_range]; omega)]
    by_cases e : i = j
    · rw [if_pos e, if_neg (by omega)]
      rfl
    · rw [if_neg e]
      rfl
theorem mix_at (s s' : Sto) (n i : Nat) (h : i < n) : (mixS s s' n i)[i]? = some s := by
  unfold mixS
  rw [List.getElem?_map, List.getElem?_range h]
  simp
theorem mix_0 (s s' : Sto) (n : Nat) : mixS s s' n 0 = List.replicate n s := by
  unfold mixS
  simp [List.map_const']
theorem mix_n (s s' : Sto) (n : Nat) : mixS s s' n n = List.replicate n s' := by
  unfold mixS
  refine List.ext_getElem? fun j => ?_
  rw [List.getElem?_map]
  by_cases hj : j < n
  · rw [List.getElem?_range hj, List.getElem?_replicate]
    simp [hj]
  · rw [List.getElem?_eq_none (by rw [List.length_range]; omega), List.getElem?_eq_none (by rw [List.length_replicate]; omega)]
    rfl
def stV (Ls : List SL) : List V := Ls.map fun L => .ref L.st
def dkV (Ls : List SL) : List V := Ls.map fun L => .ref L.d.d
theorem set_same {α β : Type} {f : α → β} {xs : List α} {i : Nat} {x y : α} (h : xs[i]? = some x) (e : f y = f x) : (xs.set i y).map f = xs.map f := by
  refine List.ext_getElem? fun j => ?_
  rw [List.getElem?_map, List.getElem?_map, List.getElem?_set]
  by_cases z : i = j
  · subst z
    have := (List.getElem?_eq_some_iff.mp h).1
    rw [if_pos rfl, if_pos this, h]
    simp [e]
  · rw [if_neg z]
def lookD (s : Sto) : PyData := .list [heldD s, queueD s, .int s.q.arm]
def diskD (d : Dsk) : PyData := .list [intsD d.sure, intsD d.shown, lotsD d]
/-- three texts alike are themselves three times -/
def alikeD (x : Str) : PyData := .list [.str x, .str x, .str x]
theorem shaped_alike {x : Str} (hx : PyData.strOk x = true) : SeqAt.shaped (alikeD x) = true := by
  unfold SeqAt.shaped alikeD
  rw [PyData.canLay0, PyData.canLayAll0, PyData.canLayAll0, PyData.canLayAll0, PyData.canLayAll0, PyData.canLay0, hx]
  simp [PyData.depth, PyData.depthAll]
theorem ne_alike {x : Str} (hx : PyData.strOk x = true) : (!PyData.eqv (alikeD x) (alikeD x)) = false := by
  have : PyData.eqv (alikeD x) (alikeD x) = true := SeqAt.eqv_refl _ (by
    unfold alikeD
    rw [PyData.canLay0, PyData.canLayAll0, PyData.canLayAll0, PyData.canLayAll0, PyData.canLayAll0, PyData.canLay0, hx]
    rfl)
  rw [this]
  rfl
theorem dp_alike {K : PySem.W.Frag} {H : Hp} {p : Addr} {x : Str} (h : H p = some (.lst (List.replicate 3 (.str x)))) : Dp K H (.ref p) (alikeD x) := .lst (SqL.of h) (.cons (.str x) (.cons (.str x) (.cons (.str x) .nil)))
theorem told13 {K : PySem.W.Frag} (pf : PF K) {H : Hp} {Ls : List SL} {s : Sto} {B P : Nat} {d : Dd} {t sl : Addr} {w0 w1 w2 w3 w4 w6 w8 w9 w10 w11 w12 : Option V} {Qd : Addr → Hp → Prop} (h : Stos K H Ls (List.replicate 3 s)) (ok : s.Ok B) (nm : s.Nm (10 ^ 21) P) (hB : B ≤ 800000) (hP : P < 10 ^ 22)
    (hd : d.Ok s.d.sure.length) (hsl : H sl = some (.lst (stV Ls))) (hslf : sl ∉ foots Ls) (ht : H t = some (.tup [.str (Dd.word d), .int d.one, .int d.other]))
    (q : ∀ D Ls' H', H D = none → Stos K H' Ls' (List.replicate 3 (s.act d)) → stV Ls' = stV Ls → dkV Ls' = dkV Ls → Step (foots Ls) (foots Ls') H H' → H' D = some (.lst (List.replicate 3 (.str (s.tell d).shown))) → D ∉ foots Ls' → Qd D H') :
    ∀ D, H D = none → ∃ W : Nat → Nat → Hp → Prop, (∃ m, W 0 m (upd H D (.lst []))) ∧ ∀ n m H, W n m H → ((Itl K sl).stop n H ∧ Qd D H) ∨ ((Itl K sl).go n H ∧ ∃ Nx : Hp → Prop, (∀ H', Nx H' → ∃ m', m' < m ∧ W (n + 1) m' H') ∧ ∀ x H', (Itl K sl).yld n H x H' → gName 11 x (wipe [w0, w1, w2, w3, w4, some (.ref sl), w6, some (.ref t), w8, w9, w10, w11, w12] [11]) H' fun σ2 H2 => wipe σ2 [11] = wipe [w0, w1, w2, w3, w4, some (.ref sl), w6, some (.ref t), w8, w9, w10, w11, w12] [11] ∧ tYes σ2 H2 fun b H3 => if b = true then (tCB (rStr K) (tCons (tCall (sp__law_ask K) [] E0 (tCons (tVar 11) (tCons (tVar 7) tNil))) tNil)) σ2 H3 fun y H4 => ∃ acc, H4 D = some (.lst acc) ∧ acc.length < sizeLine ∧ Nx (upd H4 D (.lst (acc ++ [y]))) else Nx H3) := by
  intro D hD
  have len : Ls.length = 3 := by
    rw [h.at_.len, List.length_replicate]
  have nDf : D ∉ foots Ls := fun z => h.has z hD
  have s0 := same_upd (o := .lst []) hD
  refine lc_list (K := K) (a := sl) (xs := stV Ls) (fun n H1 => ∃ Ls', Stos K H1 Ls' (mixS s (s.act d) 3 n) ∧ stV Ls' = stV Ls ∧ dkV Ls' = dkV Ls ∧ Step (foots Ls) (foots Ls') H H1 ∧ D ∉ foots Ls' ∧ H1 D = some (.lst (List.replicate n (.str (s.tell d).shown))))
    ⟨Ls, by rw [mix_0]; exact h.same s0, rfl, rfl, Step.same _ s0, nDf, upd_same⟩ (fun n H1 _ h1 => ?_) ?_ ?_
  · obtain ⟨Ls', _, _, _, k, _⟩ := h1
    exact SqL.of (k.at hsl hslf)
  · rintro n x H1 hx ⟨Ls', h1, e1, e2, k, nd, hv⟩
    have hn : n < 3 := by
      have := (List.getElem?_eq_some_iff.mp hx).1
      unfold stV at this
      rw [List.length_map] at this
      omega
    rw [← e1] at hx
    unfold stV at hx
    rw [List.getElem?_map] at hx
    obtain ⟨L, hL, rfl⟩ := Option.map_eq_some_iff.mp hx
    have hs : StoAt K H1 L s := by
      obtain ⟨s1, hs1, r⟩ := h1.at_.get hL
      rw [mix_at s (s.act d) 3 n hn] at hs1
      cases hs1
      exact r
    refine ⟨rfl, ?_⟩
    unfold tYes
    dsimp only
    rw [if_pos rfl]
    refine ⟨_, rfl, _, rfl, L, s, B, t, d, rfl, hs, ok, hB, hd, k.tp _ _ ht, fun L' H2 v hL' a1 a2 k2 hdp hbl => ?_⟩
    obtain ⟨h2, k3⟩ := h1.turn hL k2 hL'
    have hD2 := k3.at hv nd
    have n2 : D ∉ foots (Ls'.set n L') := fun z => (k3.nw D z).elim nd (fun w => by rw [hv] at w; cases w)
    unfold tNil
    dsimp only
    refine (tell_fit nm ok hd (by decide) hP).str hdp hbl (by decide) (by decide) ?_
    refine ⟨_, hD2, sz_lt (by rw [List.length_replicate]; omega), Ls'.set n L', ?_, (set_same (f := fun (L : SL) => V.ref L.st) hL (by rw [a1])).trans e1, (set_same (f := fun (L : SL) => V.ref L.d.d) hL (by rw [a2])).trans e2, (k.trans k3).upd (.inl hD), n2, ?_⟩
    · rw [← mix_set]
      exact h2.step (A := [D]) (A' := [D]) ((Step.refl [D] H2).upd (.inr ⟨by simp, fun xs => nt_lst hD2⟩)) fun b hb z => n2 (by rw [List.mem_singleton] at z; exact z ▸ hb)
    · rw [upd_same, List.replicate_succ']
  · rintro H1 ⟨Ls', h1, e1, e2, k, nd, hv⟩
    have : (stV Ls).length = 3 := by
      unfold stV
      rw [List.length_map, len]
    rw [this] at h1 hv
    rw [mix_n] at h1
    exact q D Ls' H1 hD h1 e1 e2 k hv nd
theorem filter_true {α : Type} (xs : List α) : xs.filter (fun _ => true) = xs := by
  rw [List.filter_eq_self]
  intros
  rfl
theorem look_fit {s : Sto} {B P : Nat} (ok : s.Ok B) (nm : s.Nm (10 ^ 21) P) (hP : P < 10 ^ 22) : Fit (lookD s) 3 (8 * 4 + B * 4 + 0 + 3) := by
  have sz := ok.size
  have harm : s.q.arm.natAbs < 10 ^ 22 := by
    have := nm.arm
    exact Nat.lt_of_le_of_lt (by omega : s.q.arm.natAbs ≤ 40) (by decide)
  exact Fit.three (c1 := 8 * 4) (c2 := B * 4) (c3 := 0) (fit_held nm ok (by decide)) (fit_queue nm ok (by decide) hP) ((Fit.int harm).mono (by omega) (Nat.le_refl _))
theorem disk_fit {s : Sto} {B P : Nat} (ok : s.Ok B) (nm : s.Nm (10 ^ 21) P) : Fit (diskD s.d) 4 (40 * 1 + 40 * 1 + B * (B * 3 + 1) + 3) := by
  have sz := ok.size
  exact Fit.three (c1 := 40 * 1) (c2 := 40 * 1) (c3 := B * (B * 3 + 1)) ((fit_ints (by decide) nm.sure (by omega)).mono (by omega) (Nat.le_refl _)) ((fit_ints (by decide) (shown_all nm.sure nm.lots) (by rw [Dsk.shown_len]; omega)).mono (by omega) (Nat.le_refl _)) (fit_lots nm ok (by decide))
theorem looks13 {K : PySem.W.Frag} (pf : PF K) {H : Hp} {Ls : List SL} {s : Sto} {B P : Nat} {sl : Addr} {w0 w1 w2 w3 w4 w6 w7 w8 w9 w10 w11 w12 : Option V} {Qd : Addr → Hp → Prop} (h : Stos K H Ls (List.replicate 3 s)) (ok : s.Ok B) (nm : s.Nm (10 ^ 21) P) (hB : B ≤ 400) (hP : P < 10 ^ 22)
    (hsl : H sl = some (.lst (stV Ls))) (q : ∀ D H', H D = none → Same H H' → H' D = some (.lst (List.replicate 3 (.str (lookD s).shown))) → Qd D H') :
    ∀ D, H D = none → ∃ W : Nat → Nat → Hp → Prop, (∃ m, W 0 m (upd H D (.lst []))) ∧ ∀ n m H, W n m H → ((Itl K sl).stop n H ∧ Qd D H) ∨ ((Itl K sl).go n H ∧ ∃ Nx : Hp → Prop, (∀ H', Nx H' → ∃ m', m' < m ∧ W (n + 1) m' H') ∧ ∀ x H', (Itl K sl).yld n H x H' → gName 11 x (wipe [w0, w1, w2, w3, w4, some (.ref sl), w6, w7, w8, w9, w10, w11, w12] [11]) H' fun σ2 H2 => wipe σ2 [11] = wipe [w0, w1, w2, w3, w4, some (.ref sl), w6, w7, w8, w9, w10, w11, w12] [11] ∧ tYes σ2 H2 fun b H3 => if b = true then (tCB (rStr K) (tCons (tLst (tCons (tMeth (He.ga K "Store") "held" (sp_Store_held K) [] E0 (tVar 11) tNil) (tCons (tMeth (He.ga K "Store") "queue" (sp_Store_queue K) [] E0 (tVar 11) tNil) (tCons (tMeth (He.ga K "Store") "arm" (sp_Store_arm K) [] E0 (tVar 11) tNil) tNil)))) tNil)) σ2 H3 fun y H4 => ∃ acc, H4 D = some (.lst acc) ∧ acc.length < sizeLine ∧ Nx (upd H4 D (.lst (acc ++ [y]))) else Nx H3) := by
  have len : Ls.length = 3 := by
    rw [h.at_.len, List.length_replicate]
  have ls : (stV Ls).length = 3 := by
    unfold stV
    rw [List.length_map, len]
  have hnf := ok.nf
  have hmf := ok.mf
  refine comp_pure (fun _ => true) (fun _ => .str (lookD s).shown) (SqL.of hsl) (by omega) ?_ ?_ ?_ ?_
  · exact of_decide_eq_true rfl
  · exact fun x hx H1 s1 R r => r H1 (Same.refl H1)
  · intro x hx _ H1 s1 R r
    unfold stV at hx
    obtain ⟨L, hL, rfl⟩ := List.mem_map.mp hx
    have hs : StoAt K H1 L s := by
      obtain ⟨s2, hs2, r2⟩ := h.at_.mem hL
      rw [List.mem_replicate] at hs2
      exact (hs2.2 ▸ r2).same s1
    obtain ⟨dx, ho⟩ := hs.ob
    refine ⟨_, rfl, L.st, dx, _, rfl, ho, rfl, L, s, rfl, hs, by omega, fun p vs H2 hp s2 hv hA => ?_⟩
    refine ⟨_, rfl, L.st, dx, _, rfl, s2 _ _ ho, rfl, L, s, rfl, hs.same s2, ok.row (by omega), fun p3 vs3 H3 hp3 s3 hv3 hA3 => ?_⟩
    refine ⟨_, rfl, L.st, dx, _, rfl, s3 _ _ (s2 _ _ ho), rfl, L, s, rfl, (hs.same s2).same s3, of_decide_eq_true rfl, fun p4 hp4 => ?_⟩
    have s4 := same_upd (o := .lst [.ref p, .ref p3, .int s.q.arm]) hp4
    have sz := ok.size
    have harm : s.q.arm.natAbs < 10 ^ 22 := by
      have := nm.arm
      exact Nat.lt_of_le_of_lt (by omega : s.q.arm.natAbs ≤ 40) (by decide)
    have fit : Fit (lookD s) 3 (8 * 4 + B * 4 + 0 + 3) := Fit.three (c1 := 8 * 4) (c2 := B * 4) (c3 := 0) (fit_held nm ok (by decide)) (fit_queue nm ok (by decide) hP) ((Fit.int harm).mono (by omega) (Nat.le_refl _))
    refine fit.str (v := .ref p4) (.lst (SqL.of upd_same) (.cons ?_ (.cons ?_ (.cons (.int _) .nil)))) (fun b z => by cases z) (by decide) (by omega) (r _ ((s2.trans s3).trans s4))
    · exact dp_same (s3.trans s4) _ _ (dp_held hv hA)
    · exact dp_same s4 _ _ (dp_queue hv3 hA3)
  · intro p H1 hp s1 hv
    refine q p H1 hp s1 ?_
    rw [hv, filter_true, List.map_const', ls]
theorem disks13 {K : PySem.W.Frag} (pf : PF K) {H : Hp} {Ls : List SL} {s : Sto} {B P : Nat} {dl : Addr} {w0 w1 w2 w3 w5 w6 w7 w8 w9 w10 w11 w12 : Option V} {Qd : Addr → Hp → Prop} (h : Stos K H Ls (List.replicate 3 s)) (ok : s.Ok B) (nm : s.Nm (10 ^ 21) P) (hB : B ≤ 400)
    (hdl : H dl = some (.lst (dkV Ls))) (q : ∀ D H', H D = none → Same H H' → H' D = some (.lst (List.replicate 3 (.str (diskD s.d).shown))) → Qd D H') :
    ∀ D, H D = none → ∃ W : Nat → Nat → Hp → Prop, (∃ m, W 0 m (upd H D (.lst []))) ∧ ∀ n m H, W n m H → ((Itl K dl).stop n H ∧ Qd D H) ∨ ((Itl K dl).go n H ∧ ∃ Nx : Hp → Prop, (∀ H', Nx H' → ∃ m', m' < m ∧ W (n + 1) m' H') ∧ ∀ x H', (Itl K dl).yld n H x H' → gName 12 x (wipe [w0, w1, w2, w3, some (.ref dl), w5, w6, w7, w8, w9, w10, w11, w12] [12]) H' fun σ2 H2 => wipe σ2 [12] = wipe [w0, w1, w2, w3, some (.ref dl), w5, w6, w7, w8, w9, w10, w11, w12] [12] ∧ tYes σ2 H2 fun b H3 => if b = true then (tCB (rStr K) (tCons (tLst (tCons (tMeth (He.ga K "Disk") "lasting" (sp_Disk_lasting K) [] E0 (tVar 12) tNil) (tCons (tMeth (He.ga K "Disk") "shown" (sp_Disk_shown K) [] E0 (tVar 12) tNil) (tCons (tMeth (He.ga K "Disk") "lots" (sp_Disk_lots K) [] E0 (tVar 12) tNil) tNil)))) tNil)) σ2 H3 fun y H4 => ∃ acc, H4 D = some (.lst acc) ∧ acc.length < sizeLine ∧ Nx (upd H4 D (.lst (acc ++ [y]))) else Nx H3) := by
  have len : Ls.length = 3 := by
    rw [h.at_.len, List.length_replicate]
  have ls : (dkV Ls).length = 3 := by
    unfold dkV
    rw [List.length_map, len]
  have wr := ok.wear
  have sz := ok.size
  refine comp_pure (fun _ => true) (fun _ => .str (diskD s.d).shown) (SqL.of hdl) (by omega) ?_ ?_ ?_ ?_
  · exact of_decide_eq_true rfl
  · exact fun x hx H1 s1 R r => r H1 (Same.refl H1)
  · intro x hx _ H1 s1 R r
    unfold dkV at hx
    obtain ⟨L, hL, rfl⟩ := List.mem_map.mp hx
    have hs : DiskAt K H1 L.d s.d := by
      obtain ⟨s2, hs2, r2⟩ := h.at_.mem hL
      rw [List.mem_replicate] at hs2
      exact (hs2.2 ▸ r2).d.same s1
    obtain ⟨dx, ho⟩ := hs.ob
    refine ⟨_, rfl, L.d.d, dx, _, rfl, ho, rfl, L.d, s.d, rfl, hs, fun p H2 hp s2 hv => ?_⟩
    refine ⟨_, rfl, L.d.d, dx, _, rfl, s2 _ _ ho, rfl, L.d, s.d, rfl, hs.same s2, ok.dk (by omega), fun p3 H3 hp3 s3 hv3 => ?_⟩
    refine ⟨_, rfl, L.d.d, dx, _, rfl, s3 _ _ (s2 _ _ ho), rfl, L.d, s.d, rfl, (hs.same s2).same s3, by omega, fun p4 ps H4 hp4 s4 hv4 hA4 hnd4 => ?_⟩
    refine ⟨of_decide_eq_true rfl, fun p5 hp5 => ?_⟩
    have s5 := same_upd (o := .lst [.ref p, .ref p3, .ref p4]) hp5
    have fit : Fit (diskD s.d) 4 (40 * 1 + 40 * 1 + B * (B * 3 + 1) + 3) := Fit.three (c1 := 40 * 1) (c2 := 40 * 1) (c3 := B * (B * 3 + 1)) ((fit_ints (by decide) nm.sure (by omega)).mono (by omega) (Nat.le_refl _)) ((fit_ints (by decide) (shown_all nm.sure nm.lots) (by rw [Dsk.shown_len]; omega)).mono (by omega) (Nat.le_refl _)) (fit_lots nm ok (by decide))
    have hBB : B * (B * 3 + 1) ≤ 400 * (400 * 3 + 1) := Nat.mul_le_mul hB (by omega)
    refine fit.str (v := .ref p5) (.lst (SqL.of upd_same) (.cons ?_ (.cons ?_ (.cons ?_ .nil)))) (fun b z => by cases z) (by decide) (by omega) (r _ (((s2.trans s3).trans s4).trans s5))
    · exact dp_same ((s3.trans s4).trans s5) _ _ (dp_intl hv)
    · exact dp_same (s4.trans s5) _ _ (dp_intl hv3)
    · exact dp_same s5 _ _ (.lst (SqL.of hv4) (dp_lots (hA4.imp fun _ _ _ _ h => h.2)))
  · intro p H1 hp s1 hv
    refine q p H1 hp s1 ?_
    rw [hv, filter_true, List.map_const', ls]
theorem text423 : (PyData.list [.int 4, .int 2, .int 3]).shown = ("[4, 2, 3]" : Str) := by
  rw [PyData.shown_list, PyData.shownAll_cons, PyData.shownAll_cons, PyData.shownAll_cons, PyData.shownAll_nil, PyData.shown_int, PyData.shown_int, PyData.shown_int]
  decide +kernel
theorem rg13 (j : Int) (h1 : 1 ≤ j) (h2 : j ≤ 24) : ∃ n : Nat, RgC 0 j 12 n := by
  have : ∀ k : Fin 25, Builtin.Range.small 0 (k.val : Int) 12 = true ∧ Builtin.Range.rangeSize 0 (k.val : Int) 12 = (((Builtin.Range.rangeSize 0 (k.val : Int) 12).toNat : Nat) : Int) := by decide +kernel
  obtain ⟨k, rfl⟩ := Int.eq_ofNat_of_zero_le (by omega : 0 ≤ j)
  have := this ⟨k, by omega⟩
  exact ⟨_, by decide, by decide, this.1, this.2⟩
theorem step_nil {A : List Addr} {H H' : Hp} (k : Step [] A H H') : Same H H' := fun b o e => k.kp b o e (by simp)
theorem Stos.add {K : PySem.W.Frag} {H H' : Hp} {Ls : List SL} {ss : List Sto} {L : SL} {s' : Sto} (h : Stos K H Ls ss) (s : Same H H') (h' : StoAt K H' L s') (dj : ∀ b, b ∈ L.foot → b ∉ foots Ls) : Stos K H' (Ls ++ [L]) (ss ++ [s']) := by
  refine ⟨(h.same s).at_.append (.one h'), ?_⟩
  have e : foots (Ls ++ [L]) = foots Ls ++ L.foot := by
    unfold foots
    simp
  rw [e, List.nodup_append]
  exact ⟨h.nd, h'.nd, fun a ha b hb z => dj b hb (z ▸ ha)⟩
theorem new_ok (n : Nat) (h1 : 1 ≤ n) (h2 : n ≤ 40) : (Sto.new 4 2 3 (Dsk.new n)).Ok 1 := by
  have sl : (Dsk.new n).sure.length = n := List.length_replicate
  refine ⟨?_, rfl, ?_, by simp [Sto.new, Dsk.new], ?_, ?_, List.Pairwise.nil, ?_, (show (1 : Int) ≤ 4 ∧ (4 : Int) ≤ 8 from by decide), (show (1 : Int) ≤ 2 ∧ (2 : Int) ≤ 4 from by decide), (show (0 : Int) ≤ 4 from by decide), Nat.le_refl 1⟩
  · show 1 ≤ (Dsk.new n).sure.length ∧ (Dsk.new n).sure.length ≤ 40
    rw [sl]
    exact ⟨h1, h2⟩
  · intro lot hl p hp
    simp only [Sto.new, Dsk.new, List.mem_singleton] at hl
    subst hl
    cases hp
  · intro f hf
    cases hf
  · intro f hf
    cases hf
  · intro f hf
    cases hf
theorem new_nm (n : Nat) : (Sto.new 4 2 3 (Dsk.new n)).Nm (10 ^ 21) 0 := by
  refine ⟨?_, ?_, ?_, (show (0 : Int) ≤ 0 ∧ (0 : Int) ≤ 0 from by decide), ?_, ?_, (show (0 : Int) ≤ 0 ∧ (0 : Int) < 40 from by decide)⟩
  · intro f hf
    cases hf
  · intro f hf
    cases hf
  · intro f hf
    cases hf
  · intro lot hl p hp
    simp only [Sto.new, Dsk.new, List.mem_singleton] at hl
    subst hl
    cases hp
  · intro x hx
    simp only [Sto.new, Dsk.new, List.mem_replicate] at hx
    rw [hx.2]
    decide
structure In13 (K : PySem.W.Frag) (H0 H : Hp) (a st dl sl : Addr) (b : Nat) (ns : List Int) (Ls : List SL) (s : Sto) (n : Nat) : Prop where
  same : Same H0 H
  dr : DrawAt H st a b n
  scr : ScrSt K H st a ns
  hdl : H dl = some (.lst (dkV Ls))
  hsl : H sl = some (.lst (stV Ls))
  sts : Stos K H Ls (List.replicate 3 s)
  nst : st ∉ foots Ls
  ndl : dl ∉ foots Ls
  nsl : sl ∉ foots Ls
  fst : H0 st = none
  frf : ∀ b, b ∈ foots Ls → H0 b = none
theorem In13.same' {K : PySem.W.Frag} {H0 H H' : Hp} {a st dl sl : Addr} {b : Nat} {ns : List Int} {Ls : List SL} {s : Sto} {n : Nat} (h : In13 K H0 H a st dl sl b ns Ls s n) (k : Same H H') : In13 K H0 H' a st dl sl b ns Ls s n :=
  ⟨h.same.trans k, k _ _ h.dr, h.scr.same k, k _ _ h.hdl, k _ _ h.hsl, h.sts.same k, h.nst, h.ndl, h.nsl, h.fst, h.frf⟩
def t_law (K : PySem.W.Frag) : TS := (tSeq (tIfS (tTest (tOp rNe (tCB (rStr K) (tCons (tLst (tCons (tC (.int 4)) (tCons (tC (.int 2)) (tCons (tC (.int 3)) tNil)))) tNil)) (tC (.str "[4, 2, 3]")))) (tRet (tC (.bl false))) tNext)
    (tSeq (tFor (iRng3 (tCons (tC (.int 0)) (tCons (tCB (xMax2) (tCons (tC (.int 1)) (tCons (tCB (xMin2) (tCons (tC (.int 24)) (tCons (tCB (xLen K) (tCons (tVar 0) tNil)) tNil))) tNil))) (tCons (tC (.int 12)) tNil)))) (gName 1) (tSeq (tAsg (tLst (tCons (tVar 0) (tCons (tVar 1) (tCons (tC (.int 0)) tNil)))) (gName 2))
    (tSeq (tAsg (tOp xAdd (tC (.int 1)) (tCall (sp__law_next K) [] E0 (tCons (tVar 2) (tCons (tC (.int 12)) tNil)))) (gName 3))
    (tSeq (tAsg (tLst (tCons (tMake (He.ga K "Disk") (sp_Disk_init K) [] E0 (tCons (tVar 3) tNil)) (tCons (tMake (He.ga K "Disk") (sp_Disk_init K) [] E0 (tCons (tVar 3) tNil)) (tCons (tMake (He.ga K "Disk") (sp_Disk_init K) [] E0 (tCons (tVar 3) tNil)) tNil)))) (gName 4))
    (tSeq (tAsg (tLst (tCons (tMake (He.ga K "Store") (sp_Store_init K) (dv_Store_init K) E0 (tCons (tOp (rIxL K) (tVar 4) (tC (.int 0))) tNil)) (tCons (tMakeK (He.ga K "Store") 1 3 (sp_Store_init K) kg_Store_frames_dirty_patience E0 (tCons (tOp (rIxL K) (tVar 4) (tC (.int 1))) tNil) (tCons (tC (.int 4)) (tCons (tC (.int 2)) (tCons (tC (.int 3)) tNil)))) tNil))) (gName 5))
    (tSeq (tDrop (tBM K "list" rAppend (tVar 5) (tCons (tMakeK (He.ga K "Store") 1 3 (sp_Store_init K) kg_Store_patience_dirty_frames E0 (tCons (tOp (rIxL K) (tVar 4) (tC (.int 2))) tNil) (tCons (tC (.int 3)) (tCons (tC (.int 2)) (tCons (tC (.int 4)) tNil)))) tNil)))
    (tFor (iRng1 (tCons (tC (.int 24)) tNil)) (gName 6) (tSeq (tAsg (tCall (sp__law_deed K) [] E0 (tCons (tVar 2) (tCons (tVar 3) tNil))) (gName 7))
    (tSeq (tAsg (tLc (iList K (tVar 5)) (gName 11) tYes (tCB (rStr K) (tCons (tCall (sp__law_ask K) [] E0 (tCons (tVar 11) (tCons (tVar 7) tNil))) tNil)) [11]) (gName 8))
    (tSeq (tAsg (tLc (iList K (tVar 5)) (gName 11) tYes (tCB (rStr K) (tCons (tLst (tCons (tMeth (He.ga K "Store") "held" (sp_Store_held K) [] E0 (tVar 11) tNil) (tCons (tMeth (He.ga K "Store") "queue" (sp_Store_queue K) [] E0 (tVar 11) tNil) (tCons (tMeth (He.ga K "Store") "arm" (sp_Store_arm K) [] E0 (tVar 11) tNil) tNil)))) tNil)) [11]) (gName 9))
    (tSeq (tAsg (tLc (iList K (tVar 4)) (gName 12) tYes (tCB (rStr K) (tCons (tLst (tCons (tMeth (He.ga K "Disk") "lasting" (sp_Disk_lasting K) [] E0 (tVar 12) tNil) (tCons (tMeth (He.ga K "Disk") "shown" (sp_Disk_shown K) [] E0 (tVar 12) tNil) (tCons (tMeth (He.ga K "Disk") "lots" (sp_Disk_lots K) [] E0 (tVar 12) tNil) tNil)))) tNil)) [12]) (gName 10))
    (tIfS (tOr (tTest (tOp (rNeD K) (tVar 8) (tOp rRep (tSl (rSlL K) (tVar 8) tNoPart (tPart (tC (.int 1)))) (tC (.int 3))))) (tOr (tTest (tOp (rNeD K) (tVar 9) (tOp rRep (tSl (rSlL K) (tVar 9) tNoPart (tPart (tC (.int 1)))) (tC (.int 3))))) (tTest (tOp (rNeD K) (tVar 10) (tOp rRep (tSl (rSlL K) (tVar 10) tNoPart (tPart (tC (.int 1)))) (tC (.int 3))))))) (tRet (tC (.bl false))) tNext))))))))))))
    (tRet (tC (.bl true)))))
theorem len_law {K : PySem.W.Frag} (vs : List V) (H : Hp) (Q : VK) (E : XK) (h : sp_law K vs H Q E) : vs.length = ["_law_script"].length := by
  unfold sp_law at h
  repeat (first | (obtain ⟨e, _⟩ := h; rw [e]; done) | (obtain ⟨e, _⟩ := h; rw [e]; rfl; done) | obtain ⟨_, h⟩ := h)
theorem pure_law {K : PySem.W.Frag} (pf : PF K) {vs : List V} {H : Hp} {Q : VK} {E : XK} (h : sp_law K vs H Q E) : t_law K { nx := fun _ H' => Q .non H', rt := Q } (start ["_law_script", "_law_by", "_law_state", "_law_rooms", "_law_disks", "_law_stores", "_law_turn", "_law_deed_here", "_law_told", "_law_looks", "_law_lots", "_law_store", "_law_disk"] vs) H := by
  obtain ⟨a, ns, rfl, hs, hl, q⟩ := h
  refine ⟨of_decide_eq_true rfl, fun p hp => ?_⟩
  have s1 := same_upd (o := .lst [.int 4, .int 2, .int 3]) hp
  have fit423 : Fit (.list [.int 4, .int 2, .int 3]) 1 3 := Fit.three (c1 := 0) (c2 := 0) (c3 := 0) (Fit.int (by decide)) (Fit.int (by decide)) (Fit.int (by decide))
  refine ⟨.ref p, .list [.int 4, .int 2, .int 3], rfl, .lst (SqL.of upd_same) (.cons (.int _) (.cons (.int _) (.cons (.int _) .nil))), (fun x z => by cases z), (fun b z => by cases z), nums_show _ fit423.nu, Nat.le_trans fit423.de (by decide), fit423.len (by decide), rfl, _, rfl, iteN ?_ ?_⟩
  · rw [text423]
    rfl
  have hs := s1.seq hs
  refine ⟨_, rfl, a, _, rfl, .inl hs, _, _, rfl, _, _, rfl, ?_⟩
  obtain ⟨m, hm⟩ := rg13 (if (if ((ns.map V.int).length : Int) < 24 then ((ns.map V.int).length : Int) else 24) > 1 then (if ((ns.map V.int).length : Int) < 24 then ((ns.map V.int).length : Int) else 24) else 1) (by split <;> split at * <;> omega) (by split <;> split at * <;> omega)
  refine ⟨_, _, _, m, rfl, hm, ?_⟩
  refine for_it walk_rangeC (fun n σ H => SqL K H a (ns.map V.int) ∧ ∃ w1 w2 w3 w4 w5 w6 w7 w8 w9 w10 w11 w12, σ = [some (.ref a), w1, w2, w3, w4, w5, w6, w7, w8, w9, w10, w11, w12]) ⟨hs, _, _, _, _, _, _, _, _, _, _, _, _, rfl⟩ (fun _ _ _ _ _ => trivial) ?_ ?_
  · rintro i x σ H0 H' hi ⟨hs0, w1, w2, w3, w4, w5, w6, w7, w8, w9, w10, w11, w12, rfl⟩ ⟨rfl, hx⟩
    dsimp only at hx
    rw [show (0 + ((i : Nat) : Int) * 12) = ((i * 12 : Nat) : Int) by omega] at hx
    subst hx
    refine ⟨_, rfl, _, rfl, of_decide_eq_true rfl, fun st hst => ?_⟩
    have k1 := same_upd (o := .lst [.ref a, .int ((i * 12 : Nat) : Int), .int 0]) hst
    have sc1 := (ScrSt.of hs0 hst).same k1
    refine ⟨_, rfl, st, a, ns, i * 12, 0, 12, rfl, by decide, upd_same, sc1, fun r H2 r0 r1 k2 t2 d2 => ?_⟩
    have sc2 := sc1.kp k2
    have sm2 : Same H' H2 := fun b o e => k2 _ _ (k1 _ _ e) (ne_of_none e hst)
    refine ⟨_, _, rfl, rfl, ?_⟩
    obtain ⟨n0, rfl⟩ := Int.eq_ofNat_of_zero_le r0
    have er : (1 : Int) + (n0 : Int) = ((n0 + 1 : Nat) : Int) := by omega
    show gName 3 (V.int (1 + (n0 : Int))) _ _ _
    rw [er]
    have b1 : 1 ≤ n0 + 1 := by omega
    have b2 : n0 + 1 ≤ 40 := by omega
    refine ⟨_, rfl, fun x1 y1 hx1 hy1 hxy1 => ⟨x1, y1, n0 + 1, rfl, upd_same, b1, b2, fun D1 Hb hD1 eD1 kb => ⟨rfl, ?_⟩⟩⟩
    have kkb := (Step.made (C := He.ga K "Disk") hx1 hy1).trans kb
    have sb := step_nil kkb
    refine ⟨_, rfl, fun x2 y2 hx2 hy2 hxy2 => ⟨x2, y2, n0 + 1, rfl, upd_same, b1, b2, fun D2 Hc hD2 eD2 kc => ⟨rfl, ?_⟩⟩⟩
    have kkc := (Step.made (C := He.ga K "Disk") hx2 hy2).trans kc
    have sc := step_nil kkc
    refine ⟨_, rfl, fun x3 y3 hx3 hy3 hxy3 => ⟨x3, y3, n0 + 1, rfl, upd_same, b1, b2, fun D3 Hd hD3 eD3 kd => ⟨rfl, ?_⟩⟩⟩
    have kkd := (Step.made (C := He.ga K "Disk") hx3 hy3).trans kd
    have sd := step_nil kkd
    subst eD1 eD2 eD3
    refine ⟨of_decide_eq_true rfl, fun dl hdl => ?_⟩
    have se := same_upd (o := .lst [.ref D1.d, .ref D2.d, .ref D3.d]) hdl
    have edl : (upd Hd dl (.lst [.ref D1.d, .ref D2.d, .ref D3.d])) dl = some (.lst [.ref D1.d, .ref D2.d, .ref D3.d]) := upd_same
    generalize upd Hd dl (.lst [.ref D1.d, .ref D2.d, .ref D3.d]) = Hz at se edl ⊢
    have hD1b := hD1
    have hD2c := hD2
    have hD1 := ((hD1.same sc).same sd).same se
    have hD2 := (hD2.same sd).same se
    have hD3d := hD3
    have hD3 := hD3.same se
    have f1 : ∀ b, b ∈ D1.foot → H2 b = none := fun b hb => (kkb.nw b hb).resolve_left (by simp)
    have f2 : ∀ b, b ∈ D2.foot → Hb b = none := fun b hb => (kkc.nw b hb).resolve_left (by simp)
    have f3 : ∀ b, b ∈ D3.foot → Hc b = none := fun b hb => (kkd.nw b hb).resolve_left (by simp)
    have dj : ∀ {A B : List Addr} {Hx Hy : Hp}, (∀ b, b ∈ A → Hx b ≠ none) → (∀ b, b ∈ B → Hx b = none) → ∀ b, b ∈ B → b ∉ A := fun h1 h2 b hb z => h1 b z (h2 b hb)
    have dj12 : ∀ b, b ∈ D2.foot → b ∉ D1.foot := fun b hb z => hD1b.has z (f2 b hb)
    have dj13 : ∀ b, b ∈ D3.foot → b ∉ D1.foot := fun b hb z => (hD1b.same sc).has z (f3 b hb)
    have dj23 : ∀ b, b ∈ D3.foot → b ∉ D2.foot := fun b hb z => hD2c.has z (f3 b hb)
    have se2 : Same H2 Hz := ((sb.trans sc).trans sd).trans se
    refine ⟨_, rfl, dl, _, 0, .ref D1.d, rfl, rfl, SqL.of edl, atI_of (j := 0) rfl, fun x dx hx hd hxd => ?_⟩
    have m1 := Step.made (C := He.ga K "Store") hx hd
    refine ⟨x, dx, D1, Dsk.new (n0 + 1), 4, 2, 3, rfl, upd_same, hD1.same (step_nil m1), ⟨by decide, by decide⟩, ⟨by decide, by decide⟩, ⟨by decide, by decide⟩, fun L1 Hf hL1 eL1 eD1 k1 k1b => ⟨rfl, ?_⟩⟩
    have sf := step_nil (m1.trans k1b)
    have g1 : ∀ b, b ∈ L1.foot → b ∈ D1.foot ∨ Hz b = none := fun b hb => by
      rcases k1.nw b hb with z | z
      · rw [List.mem_cons] at z
        rcases z with z | z
        · exact .inr (z ▸ hx)
        · exact .inl z
      · exact .inr ((step_nil m1).free z)
    refine ⟨_, rfl, dl, _, 1, .ref D2.d, rfl, rfl, SqL.of (sf _ _ edl), atI_of (j := 1) rfl, rfl, rfl, fun x2 dx2 hx2 hd2 hxd2 => ?_⟩
    have m2 := Step.made (C := He.ga K "Store") hx2 hd2
    refine ⟨x2, dx2, D2, Dsk.new (n0 + 1), 4, 2, 3, rfl, upd_same, (hD2.same sf).same (step_nil m2), ⟨by decide, by decide⟩, ⟨by decide, by decide⟩, ⟨by decide, by decide⟩, fun L2 Hg hL2 eL2 eD2 k2 k2b => ⟨rfl, ?_⟩⟩
    have sg := step_nil (m2.trans k2b)
    have g2 : ∀ b, b ∈ L2.foot → b ∈ D2.foot ∨ Hf b = none := fun b hb => by
      rcases k2.nw b hb with z | z
      · rw [List.mem_cons] at z
        rcases z with z | z
        · exact .inr (z ▸ hx2)
        · exact .inl z
      · exact .inr ((step_nil m2).free z)
    refine ⟨of_decide_eq_true rfl, fun sl hsl => ?_⟩
    have sh := same_upd (o := .lst [.ref x, .ref x2]) hsl
    have esl : (upd Hg sl (.lst [.ref x, .ref x2])) sl = some (.lst [.ref x, .ref x2]) := upd_same
    generalize upd Hg sl (.lst [.ref x, .ref x2]) = Hh at sh esl ⊢
    refine ⟨_, rfl, .inl ⟨rfl, _, SqL.of esl⟩, ?_⟩
    refine ⟨_, rfl, dl, _, 2, .ref D3.d, rfl, rfl, SqL.of (sh _ _ (sg _ _ (sf _ _ edl))), atI_of (j := 2) rfl, rfl, rfl, fun x3 dx3 hx3 hd3 hxd3 => ?_⟩
    have m3 := Step.made (C := He.ga K "Store") hx3 hd3
    refine ⟨x3, dx3, D3, Dsk.new (n0 + 1), 4, 2, 3, rfl, upd_same, (((hD3.same sf).same sg).same sh).same (step_nil m3), ⟨by decide, by decide⟩, ⟨by decide, by decide⟩, ⟨by decide, by decide⟩, fun L3 Hi hL3 eL3 eD3 k3 k3b => ⟨rfl, ?_⟩⟩
    have si := step_nil (m3.trans k3b)
    have g3 : ∀ b, b ∈ L3.foot → b ∈ D3.foot ∨ Hh b = none := fun b hb => by
      rcases k3.nw b hb with z | z
      · rw [List.mem_cons] at z
        rcases z with z | z
        · exact .inr (z ▸ hx3)
        · exact .inl z
      · exact .inr ((step_nil m3).free z)
    refine ⟨sl, _, .ref x3, rfl, rfl, si _ _ esl, of_decide_eq_true rfl, ?_⟩
    have ff1 : ∀ b, b ∈ L1.foot → H2 b = none := fun b hb => (g1 b hb).elim (f1 b) fun z => se2.free z
    have ff2 : ∀ b, b ∈ L2.foot → H2 b = none := fun b hb => (g2 b hb).elim (fun z => sb.free (f2 b z)) fun z => (se2.trans sf).free z
    have ff3 : ∀ b, b ∈ L3.foot → H2 b = none := fun b hb => (g3 b hb).elim (fun z => (sb.trans sc).free (f3 b z)) fun z => (((se2.trans sf).trans sg).trans sh).free z
    have e12 : ∀ b, b ∈ L2.foot → b ∉ L1.foot := fun b hb z => by
      rcases g2 b hb with w | w
      · rcases g1 b z with v | v
        · exact dj12 b w v
        · exact hD2.has w v
      · exact hL1.has z w
    have e13 : ∀ b, b ∈ L3.foot → b ∉ L1.foot := fun b hb z => by
      rcases g3 b hb with w | w
      · rcases g1 b z with v | v
        · exact dj13 b w v
        · exact hD3.has w v
      · exact ((hL1.same sg).same sh).has z w
    have e23 : ∀ b, b ∈ L3.foot → b ∉ L2.foot := fun b hb z => by
      rcases g3 b hb with w | w
      · rcases g2 b z with v | v
        · exact dj23 b w v
        · exact (hD3.same sf).has w v
      · exact (hL2.same sh).has z w
    have fe1 : foots [L1] = L1.foot := by
      unfold foots
      simp
    have fe2 : foots [L1, L2] = L1.foot ++ L2.foot := by
      unfold foots
      simp
    have fe3 : foots [L1, L2, L3] = L1.foot ++ (L2.foot ++ L3.foot) := by
      unfold foots
      simp
    have S1 : Stos K Hf [L1] [Sto.new 4 2 3 (Dsk.new (n0 + 1))] := ⟨.one hL1, by rw [fe1]; exact hL1.nd⟩
    have S2 : Stos K Hg [L1, L2] [Sto.new 4 2 3 (Dsk.new (n0 + 1)), Sto.new 4 2 3 (Dsk.new (n0 + 1))] := S1.add sg hL2 fun b hb => by
      rw [fe1]
      exact e12 b hb
    have S3 : Stos K Hi [L1, L2, L3] (List.replicate 3 (Sto.new 4 2 3 (Dsk.new (n0 + 1)))) := S2.add (sh.trans si) hL3 fun b hb => by
      rw [fe2, List.mem_append, not_or]
      exact ⟨e13 b hb, e23 b hb⟩
    have nsl : sl ∉ foots [L1, L2, L3] := fun z => by
      rw [fe3, List.mem_append, List.mem_append] at z
      rcases z with z | z | z
      · exact (hL1.same sg).has z hsl
      · exact hL2.has z hsl
      · rcases g3 sl z with w | w
        · exact ((hD3.same sf).same sg).has w hsl
        · rw [esl] at w
          cases w
    have ndl : dl ∉ foots [L1, L2, L3] := fun z => by
      rw [fe3, List.mem_append, List.mem_append] at z
      rcases z with z | z | z
      · rcases g1 dl z with w | w
        · exact ((hD1b.same sc).same sd).has w hdl
        · rw [edl] at w
          cases w
      · rcases g2 dl z with w | w
        · exact (hD2c.same sd).has w hdl
        · rw [sf _ _ edl] at w
          cases w
      · rcases g3 dl z with w | w
        · exact hD3d.has w hdl
        · rw [sh _ _ (sg _ _ (sf _ _ edl))] at w
          cases w
    have ffa : ∀ b, b ∈ foots [L1, L2, L3] → H2 b = none := fun b z => by
      rw [fe3, List.mem_append, List.mem_append] at z
      rcases z with z | z | z
      · exact ff1 b z
      · exact ff2 b z
      · exact ff3 b z
    have sall : Same H2 Hg := (se2.trans sf).trans sg
    have kd : ∀ c o, Hi c = some o → c ≠ sl → upd Hi sl (.lst ([.ref x, .ref x2] ++ [.ref x3])) c = some o := fun c o e n => by
      rw [upd_ne n]
      exact e
    have I0 : In13 K H' (upd Hi sl (.lst ([.ref x, .ref x2] ++ [.ref x3]))) a st dl sl (i * 12) ns [L1, L2, L3] (Sto.new 4 2 3 (Dsk.new (n0 + 1))) 1 := by
      refine ⟨fun b o e => ?_, ?_, ?_, ?_, ?_, ?_, fun z => ?_, ndl, nsl, hst, fun b hb => sm2.free (ffa b hb)⟩
      · exact kd _ _ (si _ _ (sh _ _ (sall _ _ (sm2 _ _ e)))) (ne_of_none (sall _ _ (sm2 _ _ e)) hsl)
      · exact kd _ _ (si _ _ (sh _ _ (sall _ _ d2))) (ne_of_none (sall _ _ d2) hsl)
      · exact sc2.same fun b o e => kd _ _ (si _ _ (sh _ _ (sall _ _ e))) (ne_of_none (sall _ _ e) hsl)
      · have e0 : dkV [L1, L2, L3] = [.ref D1.d, .ref D2.d, .ref D3.d] := by
          unfold dkV
          simp [eD1, eD2, eD3]
        rw [e0]
        exact kd _ _ (si _ _ (sh _ _ (sg _ _ (sf _ _ edl)))) (ne_of_none (sg _ _ (sf _ _ edl)) hsl)
      · have e0 : stV [L1, L2, L3] = [.ref x, .ref x2] ++ [.ref x3] := by
          unfold stV
          simp [eL1, eL2, eL3]
        rw [e0]
        exact upd_same
      · exact S3.step (A := [sl]) (A' := [sl]) ((Step.refl [sl] Hi).upd (.inr ⟨by simp, fun xs => nt_lst (si _ _ esl)⟩)) fun b hb z => nsl (by rw [List.mem_singleton] at z; exact z ▸ hb)
      · have := ffa st z
        rw [d2] at this
        cases this
    generalize upd Hi sl (.lst ([.ref x, .ref x2] ++ [.ref x3])) = Hk at I0 ⊢
    refine ⟨24, rfl, by decide, by decide, ?_⟩
    refine for_range (fun n σ H => ∃ Ls s n2, In13 K H' H a st dl sl (i * 12) ns Ls s n2 ∧ s.Ok (1 + 9 * n) ∧ s.Nm (10 ^ 21) (9 * n) ∧ s.d.sure.length = n0 + 1 ∧ ∃ w6 w7 w8 w9 w10 w11 w12, σ = [some (.ref a), some (.int ((i * 12 : Nat) : Int)), some (.ref st), some (.int ((n0 + 1 : Nat) : Int)), some (.ref dl), some (.ref sl), w6, w7, w8, w9, w10, w11, w12])
      ⟨_, _, _, I0, new_ok _ b1 b2, new_nm _, List.length_replicate, _, _, _, _, _, _, _, rfl⟩ ?_ ?_
    · rintro n σ H3 hn ⟨Ls, s, n2, I, ok, nm, hr, w6, w7, w8, w9, w10, w11, w12, rfl⟩
      have hn : n < 24 := hn
      refine ⟨_, rfl, _, rfl, st, a, ns, i * 12, n2, ((n0 + 1 : Nat) : Int), rfl, by omega, I.dr, I.scr, fun t d n3 H4 hd k4 t4 d4 ht ht4 => ?_⟩
      have hd : d.Ok (s.d.sure.length : Int) := by
        rw [hr]
        exact hd
      have nfs : ∀ b, b ∈ foots Ls → b ∉ [st] := fun b hb z => I.nst (by rw [List.mem_singleton] at z; exact z ▸ hb)
      have hne : ∀ c o, H3 c = some o → c ≠ st → H4 c = some o := fun c o e n => k4 c o e n
      have St4 : Step [st] [st] H3 H4 := ⟨fun b o e n => k4 b o e (fun z => n (by simp [z])), fun b z => .inl z, t4⟩
      have dst : dl ≠ st := ne_of I.hdl I.dr (by
        intro z
        have := congrArg (fun o => match o with | HO.lst xs => xs.length | _ => 0) z
        have l : (dkV Ls).length = 3 := by
          unfold dkV
          rw [List.length_map, I.sts.at_.len, List.length_replicate]
        unfold dkV at z
        have hz := HO.lst.inj z
        have h1 : (Ls.map fun L => V.ref L.d.d)[1]? = some (.int ((i * 12 : Nat) : Int)) := by
          rw [hz]
          rfl
        rw [List.getElem?_map] at h1
        obtain ⟨L, _, e⟩ := Option.map_eq_some_iff.mp h1
        cases e)
      have sst : sl ≠ st := ne_of I.hsl I.dr (by
        intro z
        unfold stV at z
        have hz := HO.lst.inj z
        have h1 : (Ls.map fun L => V.ref L.st)[1]? = some (.int ((i * 12 : Nat) : Int)) := by
          rw [hz]
          rfl
        rw [List.getElem?_map] at h1
        obtain ⟨L, _, e⟩ := Option.map_eq_some_iff.mp h1
        cases e)
      have I4 : In13 K H' H4 a st dl sl (i * 12) ns Ls s n3 :=
        ⟨fun b o e => hne _ _ (I.same _ _ e) (ne_of_none e hst), d4, I.scr.kp k4, hne _ _ I.hdl dst, hne _ _ I.hsl sst, I.sts.step St4 nfs, I.nst, I.ndl, I.nsl, I.fst, I.frf⟩
      refine ⟨_, rfl, sl, rfl, ⟨_, SqL.of I4.hsl⟩, ?_⟩
      refine told13 pf I4.sts ok nm (by omega) (Nat.lt_of_le_of_lt (by omega : 9 * n ≤ 1000) (by decide)) hd I4.hsl I4.nsl ht4 fun p1 Ls' H5 hp1 S5 es ed k5 hv1 nf1 => ?_
      have okn : (s.act d).Ok (1 + 9 * (n + 1)) := (act_ok ok hd).mono (by omega)
      have nmn : (s.act d).Nm (10 ^ 21) (9 * (n + 1)) := (act_nm nm ok hd (Nat.le_refl _)).mono (by omega)
      have I5 : In13 K H' H5 a st dl sl (i * 12) ns Ls' (s.act d) n3 := by
        have own : ∀ c, H' c ≠ none → c ∉ foots Ls := fun c h z => h (I4.frf c z)
        refine ⟨fun b o e => k5.at (I4.same _ _ e) (own b (by rw [e]; simp)), k5.at I4.dr I4.nst, ?_, by rw [ed]; exact k5.at I4.hdl I4.ndl, by rw [es]; exact k5.at I4.hsl I4.nsl, S5, ?_, ?_, ?_, I4.fst, ?_⟩
        · have : Same H' H5 := fun b o e => k5.at (I4.same _ _ e) (own b (by rw [e]; simp))
          rcases hs0 with (h | ⟨o, h⟩) | h
          · exact .inl ⟨(ne_of_none h hst).symm, .inl (.inl (this _ _ h))⟩
          · exact .inl ⟨(ne_of_none h hst).symm, .inl (.inr ⟨o, this _ _ h⟩)⟩
          · exact .inr fun _ => .inr h
        · exact fun z => (k5.nw st z).elim I4.nst fun w => by rw [I4.dr] at w; cases w
        · exact fun z => (k5.nw dl z).elim I4.ndl fun w => by rw [I4.hdl] at w; cases w
        · exact fun z => (k5.nw sl z).elim I4.nsl fun w => by rw [I4.hsl] at w; cases w
        · exact fun b hb => (k5.nw b hb).elim (I4.frf b) fun w => I4.same.free w
      refine ⟨_, rfl, sl, rfl, ⟨_, SqL.of I5.hsl⟩, ?_⟩
      refine looks13 pf I5.sts okn nmn (by omega) (Nat.lt_of_le_of_lt (by omega : 9 * (n + 1) ≤ 1000) (by decide)) I5.hsl fun p2 H6 hp2 k6 hv2 => ?_
      have I6 := I5.same' k6
      refine ⟨_, rfl, dl, rfl, ⟨_, SqL.of I6.hdl⟩, ?_⟩
      refine disks13 pf I6.sts okn nmn (by omega) I6.hdl fun p3 H7 hp3 k7 hv3 => ?_
      have I7 := I6.same' k7
      have fitT := tell_fit nm ok hd (by decide) (Nat.lt_of_le_of_lt (by omega : 9 * n ≤ 1000) (by decide))
      have hP2 : 9 * (n + 1) < 10 ^ 22 := Nat.lt_of_le_of_lt (by omega : 9 * (n + 1) ≤ 1000) (by decide)
      have x1 := nums_text _ fitT.nu
      have x2 : PyData.strOk (lookD (s.act d)).shown = true := nums_text _ (look_fit okn nmn hP2).nu
      have x3 : PyData.strOk (diskD (s.act d).d).shown = true := nums_text _ (disk_fit okn nmn).nu
      have v1 := k7 _ _ (k6 _ _ hv1)
      have v2 := k7 _ _ hv2
      refine ⟨_, rfl, _, rfl, _, rfl, p1, _, rfl, SqL.of v1, fun c1 hc1 => ⟨c1, 3, _, rfl, rfl, upd_same, by decide, by decide, Nat.le_trans (Nat.le_refl 3) (by decide), fun r1 hr1 => ⟨alikeD _, alikeD _, dp_alike (same_upd hr1 _ _ (same_upd hc1 _ _ v1)), dp_alike upd_same, shaped_alike x1, shaped_alike x1, _, rfl, iteN (ne_alike x1) ?_⟩⟩⟩
      have v2 := same_upd (o := .lst ((List.replicate (3 : Int).toNat (cutV (List.replicate 3 (V.str (s.tell d).shown)) none (some 1))).flatten)) hr1 _ _ (same_upd (o := .lst (cutV (List.replicate 3 (V.str (s.tell d).shown)) none (some 1))) hc1 _ _ v2)
      have v3 := same_upd (o := .lst ((List.replicate (3 : Int).toNat (cutV (List.replicate 3 (V.str (s.tell d).shown)) none (some 1))).flatten)) hr1 _ _ (same_upd (o := .lst (cutV (List.replicate 3 (V.str (s.tell d).shown)) none (some 1))) hc1 _ _ hv3)
      refine ⟨_, rfl, _, rfl, _, rfl, p2, _, rfl, SqL.of v2, fun c2 hc2 => ⟨c2, 3, _, rfl, rfl, upd_same, by decide, by decide, Nat.le_trans (Nat.le_refl 3) (by decide), fun r2 hr2 => ⟨alikeD _, alikeD _, dp_alike (same_upd hr2 _ _ (same_upd hc2 _ _ v2)), dp_alike upd_same, shaped_alike x2, shaped_alike x2, _, rfl, iteN (ne_alike x2) ?_⟩⟩⟩
      have v3 := same_upd (o := .lst ((List.replicate (3 : Int).toNat (cutV (List.replicate 3 (V.str (lookD (s.act d)).shown)) none (some 1))).flatten)) hr2 _ _ (same_upd (o := .lst (cutV (List.replicate 3 (V.str (lookD (s.act d)).shown)) none (some 1))) hc2 _ _ v3)
      refine ⟨_, rfl, _, rfl, _, rfl, p3, _, rfl, SqL.of v3, fun c3 hc3 => ⟨c3, 3, _, rfl, rfl, upd_same, by decide, by decide, Nat.le_trans (Nat.le_refl 3) (by decide), fun r3 hr3 => ⟨alikeD _, alikeD _, dp_alike (same_upd hr3 _ _ (same_upd hc3 _ _ v3)), dp_alike upd_same, shaped_alike x3, shaped_alike x3, _, rfl, iteN (ne_alike x3) ?_⟩⟩⟩
      exact ⟨Ls', s.act d, n3, (((((I7.same' (same_upd hc1)).same' (same_upd hr1)).same' (same_upd hc2)).same' (same_upd hr2)).same' (same_upd hc3)).same' (same_upd hr3), okn, nmn, (act_rooms s d).trans hr, _, _, _, _, _, _, _, rfl⟩
    · rintro σ H3 ⟨Ls, s, n2, I, ok, nm, hr, w6, w7, w8, w9, w10, w11, w12, rfl⟩
      exact ⟨I.same.seq hs0, _, _, _, _, _, _, _, _, _, _, _, _, rfl⟩
  · rintro σ H' ⟨hs0, w1, w2, w3, w4, w5, w6, w7, w8, w9, w10, w11, w12, rfl⟩
    exact q _
end SY

namespace SY
open PySem PySem.Spec PyProof.Rows L2 XB
open C8 (Cal Mak Met pe_c pe_mk pe_mt pe_mt0 pe_gc)
/-! ### the text by places -/
def top (i : Nat) : Stmt := PySem.Challenge.pw_syncrooms_k13_by_default.main.body.getD i (.Pass ⟨0, 0, 0, 0⟩)
abbrev s_is_whole : Stmt := top 2
abbrev s_within : Stmt := top 3
abbrev s_Disk_init : Stmt := inClass (top 14) 0
abbrev s_Disk_rooms : Stmt := inClass (top 14) 1
abbrev s_Disk_lasting : Stmt := inClass (top 14) 2
abbrev s_Disk_lots : Stmt := inClass (top 14) 3
abbrev s_Disk_with_lots : Stmt := inClass (top 14) 4
abbrev s_Disk_shown : Stmt := inClass (top 14) 5
abbrev s_Disk_turn : Stmt := inClass (top 14) 7
abbrev s_Disk_ask_read : Stmt := inClass (top 14) 8
abbrev s_Disk_ask_write : Stmt := inClass (top 14) 9
abbrev s_Disk_ask_barrier : Stmt := inClass (top 14) 10
abbrev s_Disk_ask_flush : Stmt := inClass (top 14) 11
abbrev s_Request_init : Stmt := inClass (top 16) 0
abbrev s_Request_is_write : Stmt := inClass (top 16) 1
abbrev s_Queue_init : Stmt := inClass (top 17) 0
abbrev s_Queue_put : Stmt := inClass (top 17) 1
abbrev s_Queue_newest : Stmt := inClass (top 17) 2
abbrev s_Queue_free : Stmt := inClass (top 17) 3
abbrev s_Queue_by_arm : Stmt := inClass (top 17) 4
abbrev s_Queue_choice : Stmt := inClass (top 17) 5
abbrev s_Queue_served : Stmt := inClass (top 17) 6
abbrev s_Frame_init : Stmt := inClass (top 25) 0
abbrev s_Store_init : Stmt := inClass (top 26) 0
abbrev s_Store_check_room : Stmt := inClass (top 26) 1
abbrev s_Store_clean : Stmt := inClass (top 26) 2
abbrev s_Store_leave : Stmt := inClass (top 26) 3
abbrev s_Store_use : Stmt := inClass (top 26) 4
abbrev s_Store_read : Stmt := inClass (top 26) 5
abbrev s_Store_write : Stmt := inClass (top 26) 6
abbrev s_Store_order : Stmt := inClass (top 26) 7
abbrev s_Store_serve : Stmt := inClass (top 26) 8
abbrev s_Store_sync : Stmt := inClass (top 26) 9
abbrev s_Store_idle : Stmt := inClass (top 26) 10
abbrev s_Store_held : Stmt := inClass (top 26) 11
abbrev s_Store_queue : Stmt := inClass (top 26) 12
abbrev s_Store_arm : Stmt := inClass (top 26) 13
abbrev s_Store_rooms : Stmt := inClass (top 26) 14
abbrev s_spot_of : Stmt := top 27
abbrev s__law_cell_at : Stmt := top 29
abbrev s__law_draw : Stmt := top 30
abbrev s__law_number : Stmt := top 31
abbrev s__law_next : Stmt := top 32
abbrev s__law_deed : Stmt := top 33
abbrev s__law_ask : Stmt := top 34
abbrev s_law : Stmt := top 35
/-! ### the head: facts by names -/
def fa : List He.Fa := [
  .cls "Disk",
  .glo "Disk",
  .noat "Disk" "sure",
  .noat "Disk" "open_lots",
  .noat "Disk" "left",
  .cls "Request",
  .glo "Request",
  .noat "Request" "count",
  .noat "Request" "spot",
  .noat "Request" "number",
  .noat "Request" "seen",
  .cls "Queue",
  .glo "Queue",
  .noat "Queue" "patience",
  .noat "Queue" "row",
  .noat "Queue" "put_so_far",
  .noat "Queue" "spot",
  .cls "Frame",
  .glo "Frame",
  .noat "Frame" "spot",
  .noat "Frame" "number",
  .noat "Frame" "dirty",
  .cls "Store",
  .glo "Store",
  .noat "Store" "disk",
  .noat "Store" "most_frames",
  .noat "Store" "most_dirty",
  .noat "Store" "frames",
  .noat "Store" "waiting",
  .glo "is_whole",
  .glo "within",
  .mkr "Disk",
  .meth "Disk" "rooms",
  .meth "Disk" "lasting",
  .meth "Disk" "lots",
  .meth "Disk" "with_lots",
  .meth "Disk" "shown",
  .meth "Disk" "turn",
  .meth "Disk" "ask_read",
  .meth "Disk" "ask_write",
  .meth "Disk" "ask_barrier",
  .meth "Disk" "ask_flush",
  .mkr "Request",
  .meth "Request" "is_write",
  .mkr "Queue",
  .meth "Queue" "put",
  .meth "Queue" "newest",
  .meth "Queue" "free",
  .meth "Queue" "by_arm",
  .meth "Queue" "choice",
  .meth "Queue" "served",
  .mkr "Frame",
  .mkr "Store",
  .meth "Store" "check_room",
  .meth "Store" "clean",
  .meth "Store" "leave",
  .meth "Store" "use",
  .meth "Store" "read",
  .meth "Store" "write",
  .meth "Store" "order",
  .meth "Store" "serve",
  .meth "Store" "sync",
  .meth "Store" "idle",
  .meth "Store" "held",
  .meth "Store" "queue",
  .meth "Store" "arm",
  .meth "Store" "rooms",
  .glo "spot_of",
  .glo "_law_cell_at",
  .glo "_law_draw",
  .glo "_law_number",
  .glo "_law_next",
  .glo "_law_deed",
  .glo "_law_ask",
  .glo "law",
  .free "len",
  .free "min",
  .free "max",
  .free "isinstance",
  .free "all",
  .free "any",
  .free "abs",
  .free "list",
  .free "str",
  .free "range",
  .free "enumerate",
  .free "zip",
  .free "sorted",
  .free "int",
  .free "bool",
  .free "tuple",
  .free "dict",
  .free "set",
  .int "MOST_ROOMS" 40,
  .int "MOST_TURNS" 9999,
  .int "FRAMES" 4,
  .int "DIRTY" 2,
  .int "PATIENCE" 3,
  .int "MOST_FRAMES" 8,
  .int "MOST_PATIENCE" 40,
  .int "MOST_IDLE" 999]
def d_is_whole : He.DefD := ⟨("is_whole", none), "is_whole", "is_whole", defArgs s_is_whole, defBody s_is_whole, defScope s_is_whole, [], []⟩
def d_within : He.DefD := ⟨("within", none), "within", "within", defArgs s_within, defBody s_within, defScope s_within, [], []⟩
def d_Disk_init : He.DefD := ⟨("Disk", some "__init__"), "__init__", "Disk.__init__", defArgs s_Disk_init, defBody s_Disk_init, defScope s_Disk_init, [], []⟩
def d_Disk_rooms : He.DefD := ⟨("Disk", some "rooms"), "rooms", "Disk.rooms", defArgs s_Disk_rooms, defBody s_Disk_rooms, defScope s_Disk_rooms, [], []⟩
def d_Disk_lasting : He.DefD := ⟨("Disk", some "lasting"), "lasting", "Disk.lasting", defArgs s_Disk_lasting, defBody s_Disk_lasting, defScope s_Disk_lasting, [], []⟩
def d_Disk_lots : He.DefD := ⟨("Disk", some "lots"), "lots", "Disk.lots", defArgs s_Disk_lots, defBody s_Disk_lots, defScope s_Disk_lots, [], []⟩
def d_Disk_with_lots : He.DefD := ⟨("Disk", some "with_lots"), "with_lots", "Disk.with_lots", defArgs s_Disk_with_lots, defBody s_Disk_with_lots, defScope s_Disk_with_lots, [], []⟩
def d_Disk_shown : He.DefD := ⟨("Disk", some "shown"), "shown", "Disk.shown", defArgs s_Disk_shown, defBody s_Disk_shown, defScope s_Disk_shown, [], []⟩
def d_Disk_turn : He.DefD := ⟨("Disk", some "turn"), "turn", "Disk.turn", defArgs s_Disk_turn, defBody s_Disk_turn, defScope s_Disk_turn, [], []⟩
def d_Disk_ask_read : He.DefD := ⟨("Disk", some "ask_read"), "ask_read", "Disk.ask_read", defArgs s_Disk_ask_read, defBody s_Disk_ask_read, defScope s_Disk_ask_read, [], []⟩
def d_Disk_ask_write : He.DefD := ⟨("Disk", some "ask_write"), "ask_write", "Disk.ask_write", defArgs s_Disk_ask_write, defBody s_Disk_ask_write, defScope s_Disk_ask_write, [], []⟩
def d_Disk_ask_barrier : He.DefD := ⟨("Disk", some "ask_barrier"), "ask_barrier", "Disk.ask_barrier", defArgs s_Disk_ask_barrier, defBody s_Disk_ask_barrier, defScope s_Disk_ask_barrier, [], []⟩
def d_Disk_ask_flush : He.DefD := ⟨("Disk", some "ask_flush"), "ask_flush", "Disk.ask_flush", defArgs s_Disk_ask_flush, defBody s_Disk_ask_flush, defScope s_Disk_ask_flush, [], []⟩
def d_Request_init : He.DefD := ⟨("Request", some "__init__"), "__init__", "Request.__init__", defArgs s_Request_init, defBody s_Request_init, defScope s_Request_init, [], []⟩
def d_Request_is_write : He.DefD := ⟨("Request", some "is_write"), "is_write", "Request.is_write", defArgs s_Request_is_write, defBody s_Request_is_write, defScope s_Request_is_write, [], []⟩
def d_Queue_init : He.DefD := ⟨("Queue", some "__init__"), "__init__", "Queue.__init__", defArgs s_Queue_init, defBody s_Queue_init, defScope s_Queue_init, [], []⟩
def d_Queue_put : He.DefD := ⟨("Queue", some "put"), "put", "Queue.put", defArgs s_Queue_put, defBody s_Queue_put, defScope s_Queue_put, [], []⟩
def d_Queue_newest : He.DefD := ⟨("Queue", some "newest"), "newest", "Queue.newest", defArgs s_Queue_newest, defBody s_Queue_newest, defScope s_Queue_newest, [], []⟩
def d_Queue_free : He.DefD := ⟨("Queue", some "free"), "free", "Queue.free", defArgs s_Queue_free, defBody s_Queue_free, defScope s_Queue_free, [], []⟩
def d_Queue_by_arm : He.DefD := ⟨("Queue", some "by_arm"), "by_arm", "Queue.by_arm", defArgs s_Queue_by_arm, defBody s_Queue_by_arm, defScope s_Queue_by_arm, [], []⟩
def d_Queue_choice : He.DefD := ⟨("Queue", some "choice"), "choice", "Queue.choice", defArgs s_Queue_choice, defBody s_Queue_choice, defScope s_Queue_choice, [], []⟩
def d_Queue_served : He.DefD := ⟨("Queue", some "served"), "served", "Queue.served", defArgs s_Queue_served, defBody s_Queue_served, defScope s_Queue_served, [], []⟩
def d_Frame_init : He.DefD := ⟨("Frame", some "__init__"), "__init__", "Frame.__init__", defArgs s_Frame_init, defBody s_Frame_init, defScope s_Frame_init, [], []⟩
def d_Store_init : He.DefD := ⟨("Store", some "__init__"), "__init__", "Store.__init__", defArgs s_Store_init, defBody s_Store_init, defScope s_Store_init, [], [("frames", .int 4), ("dirty", .int 2), ("patience", .int 3)]⟩
def d_Store_check_room : He.DefD := ⟨("Store", some "check_room"), "check_room", "Store.check_room", defArgs s_Store_check_room, defBody s_Store_check_room, defScope s_Store_check_room, [], []⟩
def d_Store_clean : He.DefD := ⟨("Store", some "clean"), "clean", "Store.clean", defArgs s_Store_clean, defBody s_Store_clean, defScope s_Store_clean, [], []⟩
def d_Store_leave : He.DefD := ⟨("Store", some "leave"), "leave", "Store.leave", defArgs s_Store_leave, defBody s_Store_leave, defScope s_Store_leave, [], []⟩
def d_Store_use : He.DefD := ⟨("Store", some "use"), "use", "Store.use", defArgs s_Store_use, defBody s_Store_use, defScope s_Store_use, [], []⟩
def d_Store_read : He.DefD := ⟨("Store", some "read"), "read", "Store.read", defArgs s_Store_read, defBody s_Store_read, defScope s_Store_read, [], []⟩
def d_Store_write : He.DefD := ⟨("Store", some "write"), "write", "Store.write", defArgs s_Store_write, defBody s_Store_write, defScope s_Store_write, [], []⟩
def d_Store_order : He.DefD := ⟨("Store", some "order"), "order", "Store.order", defArgs s_Store_order, defBody s_Store_order, defScope s_Store_order, [], []⟩
def d_Store_serve : He.DefD := ⟨("Store", some "serve"), "serve", "Store.serve", defArgs s_Store_serve, defBody s_Store_serve, defScope s_Store_serve, [], []⟩
def d_Store_sync : He.DefD := ⟨("Store", some "sync"), "sync", "Store.sync", defArgs s_Store_sync, defBody s_Store_sync, defScope s_Store_sync, [], []⟩
def d_Store_idle : He.DefD := ⟨("Store", some "idle"), "idle", "Store.idle", defArgs s_Store_idle, defBody s_Store_idle, defScope s_Store_idle, [], [("many", .int 1)]⟩
def d_Store_held : He.DefD := ⟨("Store", some "held"), "held", "Store.held", defArgs s_Store_held, defBody s_Store_held, defScope s_Store_held, [], []⟩
def d_Store_queue : He.DefD := ⟨("Store", some "queue"), "queue", "Store.queue", defArgs s_Store_queue, defBody s_Store_queue, defScope s_Store_queue, [], []⟩
def d_Store_arm : He.DefD := ⟨("Store", some "arm"), "arm", "Store.arm", defArgs s_Store_arm, defBody s_Store_arm, defScope s_Store_arm, [], []⟩
def d_Store_rooms : He.DefD := ⟨("Store", some "rooms"), "rooms", "Store.rooms", defArgs s_Store_rooms, defBody s_Store_rooms, defScope s_Store_rooms, [], []⟩
def d_spot_of : He.DefD := ⟨("spot_of", none), "spot_of", "spot_of", defArgs s_spot_of, defBody s_spot_of, defScope s_spot_of, [], []⟩
def d__law_cell_at : He.DefD := ⟨("_law_cell_at", none), "_law_cell_at", "_law_cell_at", defArgs s__law_cell_at, defBody s__law_cell_at, defScope s__law_cell_at, [], []⟩
def d__law_draw : He.DefD := ⟨("_law_draw", none), "_law_draw", "_law_draw", defArgs s__law_draw, defBody s__law_draw, defScope s__law_draw, [], []⟩
def d__law_number : He.DefD := ⟨("_law_number", none), "_law_number", "_law_number", defArgs s__law_number, defBody s__law_number, defScope s__law_number, [], []⟩
def d__law_next : He.DefD := ⟨("_law_next", none), "_law_next", "_law_next", defArgs s__law_next, defBody s__law_next, defScope s__law_next, [], []⟩
def d__law_deed : He.DefD := ⟨("_law_deed", none), "_law_deed", "_law_deed", defArgs s__law_deed, defBody s__law_deed, defScope s__law_deed, [], []⟩
def d__law_ask : He.DefD := ⟨("_law_ask", none), "_law_ask", "_law_ask", defArgs s__law_ask, defBody s__law_ask, defScope s__law_ask, [], []⟩
def d_law : He.DefD := ⟨("law", none), "law", "law", defArgs s_law, defBody s_law, defScope s_law, [], []⟩
def fn : List He.DefD := [d_is_whole, d_within, d_Disk_init, d_Disk_rooms, d_Disk_lasting, d_Disk_lots, d_Disk_with_lots, d_Disk_shown, d_Disk_turn, d_Disk_ask_read, d_Disk_ask_write, d_Disk_ask_barrier, d_Disk_ask_flush, d_Request_init, d_Request_is_write, d_Queue_init, d_Queue_put, d_Queue_newest, d_Queue_free, d_Queue_by_arm, d_Queue_choice, d_Queue_served, d_Frame_init, d_Store_init, d_Store_check_room, d_Store_clean, d_Store_leave, d_Store_use, d_Store_read, d_Store_write, d_Store_order, d_Store_serve, d_Store_sync, d_Store_idle, d_Store_held, d_Store_queue, d_Store_arm, d_Store_rooms, d_spot_of, d__law_cell_at, d__law_draw, d__law_number, d__law_next, d__law_deed, d__law_ask, d_law]
def exs : List (PySem.W.Frag → Bool) := [
  fun K => decide (PySem.W.specialIn K (.ref (He.fAd K ("Queue", some "by_arm"))) "__get__" = some (some (.builtin "function.__get__"))) && (decide (PySem.W.takesIn K (.ref (He.fAd K ("Queue", some "by_arm"))) = some false) && PySem.W.fnIn K (He.fAd K ("Queue", some "by_arm"))),
  fun K => decide (PySem.W.findIn K (.ref (He.ga K "Disk")) "__class__" = some (some (.builtin "object.__class__"))) && (decide (PySem.W.specialIn K (.builtin "object.__class__") "__get__" = some (some (.builtin "getset_descriptor.__get__"))) && (decide (PySem.W.takesIn K (.builtin "object.__class__") = some true) && decide (PySem.W.mroIn K (He.ga K "Disk") (.type "object") = some true))),
  fun K => decide (PySem.W.kitOne K (.ref (He.ga K "Disk")) (.ref (He.ga K "Disk")) = some true),
  fun K => decide (PySem.W.findIn K (.ref (He.ga K "Request")) "__class__" = some (some (.builtin "object.__class__"))) && (decide (PySem.W.specialIn K (.builtin "object.__class__") "__get__" = some (some (.builtin "getset_descriptor.__get__"))) && (decide (PySem.W.takesIn K (.builtin "object.__class__") = some true) && decide (PySem.W.mroIn K (He.ga K "Request") (.type "object") = some true))),
  fun K => decide (PySem.W.kitOne K (.ref (He.ga K "Request")) (.ref (He.ga K "Request")) = some true),
  fun K => decide (PySem.W.findIn K (.ref (He.ga K "Queue")) "__class__" = some (some (.builtin "object.__class__"))) && (decide (PySem.W.specialIn K (.builtin "object.__class__") "__get__" = some (some (.builtin "getset_descriptor.__get__"))) && (decide (PySem.W.takesIn K (.builtin "object.__class__") = some true) && decide (PySem.W.mroIn K (He.ga K "Queue") (.type "object") = some true))),
  fun K => decide (PySem.W.kitOne K (.ref (He.ga K "Queue")) (.ref (He.ga K "Queue")) = some true),
  fun K => decide (PySem.W.findIn K (.ref (He.ga K "Frame")) "__class__" = some (some (.builtin "object.__class__"))) && (decide (PySem.W.specialIn K (.builtin "object.__class__") "__get__" = some (some (.builtin "getset_descriptor.__get__"))) && (decide (PySem.W.takesIn K (.builtin "object.__class__") = some true) && decide (PySem.W.mroIn K (He.ga K "Frame") (.type "object") = some true))),
  fun K => decide (PySem.W.kitOne K (.ref (He.ga K "Frame")) (.ref (He.ga K "Frame")) = some true),
  fun K => decide (PySem.W.findIn K (.ref (He.ga K "Store")) "__class__" = some (some (.builtin "object.__class__"))) && (decide (PySem.W.specialIn K (.builtin "object.__class__") "__get__" = some (some (.builtin "getset_descriptor.__get__"))) && (decide (PySem.W.takesIn K (.builtin "object.__class__") = some true) && decide (PySem.W.mroIn K (He.ga K "Store") (.type "object") = some true))),
  fun K => decide (PySem.W.kitOne K (.ref (He.ga K "Store")) (.ref (He.ga K "Store")) = some true),
  fun K => decide (He.ga K "Disk" ≠ He.ga K "Request"),
  fun K => decide (He.ga K "Disk" ≠ He.ga K "Queue"),
  fun K => decide (He.ga K "Request" ≠ He.ga K "Queue"),
  fun K => decide (He.ga K "Disk" ≠ He.ga K "Frame"),
  fun K => decide (He.ga K "Request" ≠ He.ga K "Frame"),
  fun K => decide (He.ga K "Queue" ≠ He.ga K "Frame"),
  fun K => decide (He.ga K "Disk" ≠ He.ga K "Store"),
  fun K => decide (He.ga K "Request" ≠ He.ga K "Store"),
  fun K => decide (He.ga K "Queue" ≠ He.ga K "Store"),
  fun K => decide (He.ga K "Frame" ≠ He.ga K "Store")]
def okM (K : PySem.W.Frag) : Bool := (fa.all fun f => f.ok K) && ((fn.all fun d => d.ok K) && exs.all fun f => f K)
abbrev AlM : Type := Bool × List He.FnW
def obsM (K : PySem.W.Frag) : AlM := (okM K, fn.map fun d => He.fnW K d.at_)
def Says (K : PySem.W.Frag) : Prop := obsM K = (true, fn.map He.DefD.val)
def obsG (g : Addr → Option Obj) : AlM := obsM (He.frG g (He.asD g 4))
def hk : PySem.W.Hook where
  α := AlM
  obs := fun s => obsG s.heap.get?
  val := fun _ => (true, fn.map He.DefD.val)
  says := fun _ h => ∃ K : PySem.W.Frag, K.In h ∧ Says K
  of := fun _ _ e => ⟨_, He.frG_in, e⟩
  keeps := fun _ _ _ ⟨K, a, c⟩ k => ⟨K, PySem.W.Frag.In.keeps a k, c⟩
theorem obsG_eq {g : Addr → Option Obj} {s : Shared} (h : ∀ a, g a = s.heap.get? a) : obsG g = hk.obs s := by
  rw [show g = s.heap.get? from funext h] <;> rfl
abbrev R : PySem.W.OpenRow := PySem.W.OpenLaw.row PySem.Challenge.rw_syncrooms_k13_by_default
def ob (s : PySem.W.SharedT) : AlM := obsG (HandSHeadRun.getT s)
theorem ob_eq (s : PySem.W.SharedT) : ob s = hk.obs s.abs := obsG_eq (HandSHeadRun.getT_eq s)
def nm0 : List Str := ["_wall", "is_whole", "within", "RoomError", "BadDisk", "BadStore", "BadRoom", "BadNumber", "Dark", "MOST_ROOMS", "MOST_TURNS", "Disk", "Request", "Queue", "FRAMES", "DIRTY", "PATIENCE", "MOST_FRAMES", "MOST_PATIENCE", "MOST_IDLE", "Frame", "Store", "spot_of", "_law_cell_at", "_law_draw", "_law_number", "_law_next", "_law_deed", "_law_ask"]
def nms : List Str := nm0
theorem run (w : World) : HandSHeadRun.RunEq R (PySem.W.view R.prog [35]) hk ob 20000 nms w := by
  intro os
  kernel_rfl
/-! ### the facts -/
structure Tx (K : PySem.W.Frag) (mg : Str → Option Value) : Prop where
  c : Says K
  ex : ∃ h : Heap, K.In h ∧ h.Ns mainGlobals mg
section
variable {K : PySem.W.Frag} {mg : Str → Option Value}
theorem Tx.ok (T : Tx K mg) : okM K = true := congrArg (fun z : AlM => z.1) T.c
theorem Tx.X (T : Tx K mg) : K.In T.ex.choose := T.ex.choose_spec.1
theorem Tx.G (T : Tx K mg) : T.ex.choose.Ns mainGlobals mg := T.ex.choose_spec.2
theorem Tx.fact (T : Tx K mg) (i : Nat) {f : He.Fa} (h : fa[i]? = some f) : f.ok K = true := List.all_eq_true.mp (He.ba T.ok).1 f (List.mem_of_getElem? h)
theorem Tx.extra (T : Tx K mg) (i : Nat) {f : PySem.W.Frag → Bool} (h : exs[i]? = some f) : f K = true := List.all_eq_true.mp (He.ba (He.ba T.ok).2).2 f (List.mem_of_getElem? h)
theorem Tx.def_ (T : Tx K mg) (i : Nat) {d : He.DefD} (h : fn[i]? = some d) : ∃ fd, FunD K d.name d.qual d.params d.body d.scope (d.dvs K) (d.kws K) (He.fAd K d.at_) fd := by
  have e : fn.map (fun d => He.fnW K d.at_) = fn.map He.DefD.val := congrArg (fun z : AlM => z.2) T.c
  have e2 : (fn.map fun d => He.fnW K d.at_)[i]? = (fn.map He.DefD.val)[i]? := by rw [e]
  rw [List.getElem?_map, List.getElem?_map, h] at e2
  exact He.DefD.funD (Option.some.inj e2) (List.all_eq_true.mp (He.ba (He.ba T.ok).2).1 d (List.mem_of_getElem? h))
theorem Tx.cl_Disk (T : Tx K mg) : Cls K (He.ga K "Disk") := He.cls_ok (T.fact 0 (f := .cls "Disk") rfl)
theorem Tx.gl_Disk (T : Tx K mg) : mg "Disk" = some (.ref (He.ga K "Disk")) := He.glo_ok T.X T.G (T.fact 1 (f := .glo "Disk") rfl)
theorem Tx.na_Disk_sure (T : Tx K mg) : NoAttr K (He.ga K "Disk") "sure" := He.noat_ok (T.fact 2 (f := .noat "Disk" "sure") rfl)
theorem Tx.na_Disk_open_lots (T : Tx K mg) : NoAttr K (He.ga K "Disk") "open_lots" := He.noat_ok (T.fact 3 (f := .noat "Disk" "open_lots") rfl)
theorem Tx.na_Disk_left (T : Tx K mg) : NoAttr K (He.ga K "Disk") "left" := He.noat_ok (T.fact 4 (f := .noat "Disk" "left") rfl)
theorem Tx.cl_Request (T : Tx K mg) : Cls K (He.ga K "Request") := He.cls_ok (T.fact 5 (f := .cls "Request") rfl)
theorem Tx.gl_Request (T : Tx K mg) : mg "Request" = some (.ref (He.ga K "Request")) := He.glo_ok T.X T.G (T.fact 6 (f := .glo "Request") rfl)
theorem Tx.na_Request_count (T : Tx K mg) : NoAttr K (He.ga K "Request") "count" := He.noat_ok (T.fact 7 (f := .noat "Request" "count") rfl)
theorem Tx.na_Request_spot (T : Tx K mg) : NoAttr K (He.ga K "Request") "spot" := He.noat_ok (T.fact 8 (f := .noat "Request" "spot") rfl)
theorem Tx.na_Request_number (T : Tx K mg) : NoAttr K (He.ga K "Request") "number" := He.noat_ok (T.fact 9 (f := .noat "Request" "number") rfl)
theorem Tx.na_Request_seen (T : Tx K mg) : NoAttr K (He.ga K "Request") "seen" := He.noat_ok (T.fact 10 (f := .noat "Request" "seen") rfl)
theorem Tx.cl_Queue (T : Tx K mg) : Cls K (He.ga K "Queue") := He.cls_ok (T.fact 11 (f := .cls "Queue") rfl)
theorem Tx.gl_Queue (T : Tx K mg) : mg "Queue" = some (.ref (He.ga K "Queue")) := He.glo_ok T.X T.G (T.fact 12 (f := .glo "Queue") rfl)
theorem Tx.na_Queue_patience (T : Tx K mg) : NoAttr K (He.ga K "Queue") "patience" := He.noat_ok (T.fact 13 (f := .noat "Queue" "patience") rfl)
theorem Tx.na_Queue_row (T : Tx K mg) : NoAttr K (He.ga K "Queue") "row" := He.noat_ok (T.fact 14 (f := .noat "Queue" "row") rfl)
theorem Tx.na_Queue_put_so_far (T : Tx K mg) : NoAttr K (He.ga K "Queue") "put_so_far" := He.noat_ok (T.fact 15 (f := .noat "Queue" "put_so_far") rfl)
theorem Tx.na_Queue_spot (T : Tx K mg) : NoAttr K (He.ga K "Queue") "spot" := He.noat_ok (T.fact 16 (f := .noat "Queue" "spot") rfl)
theorem Tx.cl_Frame (T : Tx K mg) : Cls K (He.ga K "Frame") := He.cls_ok (T.fact 17 (f := .cls "Frame") rfl)
theorem Tx.gl_Frame (T : Tx K mg) : mg "Frame" = some (.ref (He.ga K "Frame")) := He.glo_ok T.X T.G (T.fact 18 (f := .glo "Frame") rfl)
theorem Tx.na_Frame_spot (T : Tx K mg) : NoAttr K (He.ga K "Frame") "spot" := He.noat_ok (T.fact 19 (f := .noat "Frame" "spot") rfl)
theorem Tx.na_Frame_number (T : Tx K mg) : NoAttr K (He.ga K "Frame") "number" := He.noat_ok (T.fact 20 (f := .noat "Frame" "number") rfl)
theorem Tx.na_Frame_dirty (T : Tx K mg) : NoAttr K (He.ga K "Frame") "dirty" := He.noat_ok (T.fact 21 (f := .noat "Frame" "dirty") rfl)
theorem Tx.cl_Store (T : Tx K mg) : Cls K (He.ga K "Store") := He.cls_ok (T.fact 22 (f := .cls "Store") rfl)
theorem Tx.gl_Store (T : Tx K mg) : mg "Store" = some (.ref (He.ga K "Store")) := He.glo_ok T.X T.G (T.fact 23 (f := .glo "Store") rfl)
theorem Tx.na_Store_disk (T : Tx K mg) : NoAttr K (He.ga K "Store") "disk" := He.noat_ok (T.fact 24 (f := .noat "Store" "disk") rfl)
theorem Tx.na_Store_most_frames (T : Tx K mg) : NoAttr K (He.ga K "Store") "most_frames" := He.noat_ok (T.fact 25 (f := .noat "Store" "most_frames") rfl)
theorem Tx.na_Store_most_dirty (T : Tx K mg) : NoAttr K (He.ga K "Store") "most_dirty" := He.noat_ok (T.fact 26 (f := .noat "Store" "most_dirty") rfl)
theorem Tx.na_Store_frames (T : Tx K mg) : NoAttr K (He.ga K "Store") "frames" := He.noat_ok (T.fact 27 (f := .noat "Store" "frames") rfl)
theorem Tx.na_Store_waiting (T : Tx K mg) : NoAttr K (He.ga K "Store") "waiting" := He.noat_ok (T.fact 28 (f := .noat "Store" "waiting") rfl)
theorem Tx.gl_is_whole (T : Tx K mg) : mg "is_whole" = some (.ref (He.ga K "is_whole")) := He.glo_ok T.X T.G (T.fact 29 (f := .glo "is_whole") rfl)
theorem Tx.gl_within (T : Tx K mg) : mg "within" = some (.ref (He.ga K "within")) := He.glo_ok T.X T.G (T.fact 30 (f := .glo "within") rfl)
theorem Tx.mk_Disk (T : Tx K mg) : Mk K (He.ga K "Disk") (He.fAd K ("Disk", some "__init__")) := He.mkr_ok (T.fact 31 (f := .mkr "Disk") rfl)
theorem Tx.mt_Disk_rooms (T : Tx K mg) : Meth K (He.ga K "Disk") "rooms" (He.fAd K ("Disk", some "rooms")) := He.meth_ok (T.fact 32 (f := .meth "Disk" "rooms") rfl)
theorem Tx.mt_Disk_lasting (T : Tx K mg) : Meth K (He.ga K "Disk") "lasting" (He.fAd K ("Disk", some "lasting")) := He.meth_ok (T.fact 33 (f := .meth "Disk" "lasting") rfl)
theorem Tx.mt_Disk_lots (T : Tx K mg) : Meth K (He.ga K "Disk") "lots" (He.fAd K ("Disk", some "lots")) := He.meth_ok (T.fact 34 (f := .meth "Disk" "lots") rfl)
theorem Tx.mt_Disk_with_lots (T : Tx K mg) : Meth K (He.ga K "Disk") "with_lots" (He.fAd K ("Disk", some "with_lots")) := He.meth_ok (T.fact 35 (f := .meth "Disk" "with_lots") rfl)
theorem Tx.mt_Disk_shown (T : Tx K mg) : Meth K (He.ga K "Disk") "shown" (He.fAd K ("Disk", some "shown")) := He.meth_ok (T.fact 36 (f := .meth "Disk" "shown") rfl)
theorem Tx.mt_Disk_turn (T : Tx K mg) : Meth K (He.ga K "Disk") "turn" (He.fAd K ("Disk", some "turn")) := He.meth_ok (T.fact 37 (f := .meth "Disk" "turn") rfl)
theorem Tx.mt_Disk_ask_read (T : Tx K mg) : Meth K (He.ga K "Disk") "ask_read" (He.fAd K ("Disk", some "ask_read")) := He.meth_ok (T.fact 38 (f := .meth "Disk" "ask_read") rfl)
theorem Tx.mt_Disk_ask_write (T : Tx K mg) : Meth K (He.ga K "Disk") "ask_write" (He.fAd K ("Disk", some "ask_write")) := He.meth_ok (T.fact 39 (f := .meth "Disk" "ask_write") rfl)
theorem Tx.mt_Disk_ask_barrier (T : Tx K mg) : Meth K (He.ga K "Disk") "ask_barrier" (He.fAd K ("Disk", some "ask_barrier")) := He.meth_ok (T.fact 40 (f := .meth "Disk" "ask_barrier") rfl)
theorem Tx.mt_Disk_ask_flush (T : Tx K mg) : Meth K (He.ga K "Disk") "ask_flush" (He.fAd K ("Disk", some "ask_flush")) := He.meth_ok (T.fact 41 (f := .meth "Disk" "ask_flush") rfl)
theorem Tx.mk_Request (T : Tx K mg) : Mk K (He.ga K "Request") (He.fAd K ("Request", some "__init__")) := He.mkr_ok (T.fact 42 (f := .mkr "Request") rfl)
theorem Tx.mt_Request_is_write (T : Tx K mg) : Meth K (He.ga K "Request") "is_write" (He.fAd K ("Request", some "is_write")) := He.meth_ok (T.fact 43 (f := .meth "Request" "is_write") rfl)
theorem Tx.mk_Queue (T : Tx K mg) : Mk K (He.ga K "Queue") (He.fAd K ("Queue", some "__init__")) := He.mkr_ok (T.fact 44 (f := .mkr "Queue") rfl)
theorem Tx.mt_Queue_put (T : Tx K mg) : Meth K (He.ga K "Queue") "put" (He.fAd K ("Queue", some "put")) := He.meth_ok (T.fact 45 (f := .meth "Queue" "put") rfl)
theorem Tx.mt_Queue_newest (T : Tx K mg) : Meth K (He.ga K "Queue") "newest" (He.fAd K ("Queue", some "newest")) := He.meth_ok (T.fact 46 (f := .meth "Queue" "newest") rfl)
theorem Tx.mt_Queue_free (T : Tx K mg) : Meth K (He.ga K "Queue") "free" (He.fAd K ("Queue", some "free")) := He.meth_ok (T.fact 47 (f := .meth "Queue" "free") rfl)
theorem Tx.mt_Queue_by_arm (T : Tx K mg) : Meth K (He.ga K "Queue") "by_arm" (He.fAd K ("Queue", some "by_arm")) := He.meth_ok (T.fact 48 (f := .meth "Queue" "by_arm") rfl)
theorem Tx.mt_Queue_choice (T : Tx K mg) : Meth K (He.ga K "Queue") "choice" (He.fAd K ("Queue", some "choice")) := He.meth_ok (T.fact 49 (f := .meth "Queue" "choice") rfl)
theorem Tx.mt_Queue_served (T : Tx K mg) : Meth K (He.ga K "Queue") "served" (He.fAd K ("Queue", some "served")) := He.meth_ok (T.fact 50 (f := .meth "Queue" "served") rfl)
theorem Tx.mk_Frame (T : Tx K mg) : Mk K (He.ga K "Frame") (He.fAd K ("Frame", some "__init__")) := He.mkr_ok (T.fact 51 (f := .mkr "Frame") rfl)
theorem Tx.mk_Store (T : Tx K mg) : Mk K (He.ga K "Store") (He.fAd K ("Store", some "__init__")) := He.mkr_ok (T.fact 52 (f := .mkr "Store") rfl)
theorem Tx.mt_Store_check_room (T : Tx K mg) : Meth K (He.ga K "Store") "check_room" (He.fAd K ("Store", some "check_room")) := He.meth_ok (T.fact 53 (f := .meth "Store" "check_room") rfl)
theorem Tx.mt_Store_clean (T : Tx K mg) : Meth K (He.ga K "Store") "clean" (He.fAd K ("Store", some "clean")) := He.meth_ok (T.fact 54 (f := .meth "Store" "clean") rfl)
theorem Tx.mt_Store_leave (T : Tx K mg) : Meth K (He.ga K "Store") "leave" (He.fAd K ("Store", some "leave")) := He.meth_ok (T.fact 55 (f := .meth "Store" "leave") rfl)
theorem Tx.mt_Store_use (T : Tx K mg) : Meth K (He.ga K "Store") "use" (He.fAd K ("Store", some "use")) := He.meth_ok (T.fact 56 (f := .meth "Store" "use") rfl)
theorem Tx.mt_Store_read (T : Tx K mg) : Meth K (He.ga K "Store") "read" (He.fAd K ("Store", some "read")) := He.meth_ok (T.fact 57 (f := .meth "Store" "read") rfl)
theorem Tx.mt_Store_write (T : Tx K mg) : Meth K (He.ga K "Store") "write" (He.fAd K ("Store", some "write")) := He.meth_ok (T.fact 58 (f := .meth "Store" "write") rfl)
theorem Tx.mt_Store_order (T : Tx K mg) : Meth K (He.ga K "Store") "order" (He.fAd K ("Store", some "order")) := He.meth_ok (T.fact 59 (f := .meth "Store" "order") rfl)
theorem Tx.mt_Store_serve (T : Tx K mg) : Meth K (He.ga K "Store") "serve" (He.fAd K ("Store", some "serve")) := He.meth_ok (T.fact 60 (f := .meth "Store" "serve") rfl)
theorem Tx.mt_Store_sync (T : Tx K mg) : Meth K (He.ga K "Store") "sync" (He.fAd K ("Store", some "sync")) := He.meth_ok (T.fact 61 (f := .meth "Store" "sync") rfl)
theorem Tx.mt_Store_idle (T : Tx K mg) : Meth K (He.ga K "Store") "idle" (He.fAd K ("Store", some "idle")) := He.meth_ok (T.fact 62 (f := .meth "Store" "idle") rfl)
theorem Tx.mt_Store_held (T : Tx K mg) : Meth K (He.ga K "Store") "held" (He.fAd K ("Store", some "held")) := He.meth_ok (T.fact 63 (f := .meth "Store" "held") rfl)
theorem Tx.mt_Store_queue (T : Tx K mg) : Meth K (He.ga K "Store") "queue" (He.fAd K ("Store", some "queue")) := He.meth_ok (T.fact 64 (f := .meth "Store" "queue") rfl)
theorem Tx.mt_Store_arm (T : Tx K mg) : Meth K (He.ga K "Store") "arm" (He.fAd K ("Store", some "arm")) := He.meth_ok (T.fact 65 (f := .meth "Store" "arm") rfl)
theorem Tx.mt_Store_rooms (T : Tx K mg) : Meth K (He.ga K "Store") "rooms" (He.fAd K ("Store", some "rooms")) := He.meth_ok (T.fact 66 (f := .meth "Store" "rooms") rfl)
theorem Tx.gl_spot_of (T : Tx K mg) : mg "spot_of" = some (.ref (He.ga K "spot_of")) := He.glo_ok T.X T.G (T.fact 67 (f := .glo "spot_of") rfl)
theorem Tx.gl__law_cell_at (T : Tx K mg) : mg "_law_cell_at" = some (.ref (He.ga K "_law_cell_at")) := He.glo_ok T.X T.G (T.fact 68 (f := .glo "_law_cell_at") rfl)
theorem Tx.gl__law_draw (T : Tx K mg) : mg "_law_draw" = some (.ref (He.ga K "_law_draw")) := He.glo_ok T.X T.G (T.fact 69 (f := .glo "_law_draw") rfl)
theorem Tx.gl__law_number (T : Tx K mg) : mg "_law_number" = some (.ref (He.ga K "_law_number")) := He.glo_ok T.X T.G (T.fact 70 (f := .glo "_law_number") rfl)
theorem Tx.gl__law_next (T : Tx K mg) : mg "_law_next" = some (.ref (He.ga K "_law_next")) := He.glo_ok T.X T.G (T.fact 71 (f := .glo "_law_next") rfl)
theorem Tx.gl__law_deed (T : Tx K mg) : mg "_law_deed" = some (.ref (He.ga K "_law_deed")) := He.glo_ok T.X T.G (T.fact 72 (f := .glo "_law_deed") rfl)
theorem Tx.gl__law_ask (T : Tx K mg) : mg "_law_ask" = some (.ref (He.ga K "_law_ask")) := He.glo_ok T.X T.G (T.fact 73 (f := .glo "_law_ask") rfl)
theorem Tx.gl_law (T : Tx K mg) : mg "law" = some (.ref (He.ga K "law")) := He.glo_ok T.X T.G (T.fact 74 (f := .glo "law") rfl)
theorem Tx.fr_len (T : Tx K mg) : mg "len" = none := He.free_ok T.X T.G (T.fact 75 (f := .free "len") rfl)
theorem Tx.fr_min (T : Tx K mg) : mg "min" = none := He.free_ok T.X T.G (T.fact 76 (f := .free "min") rfl)
theorem Tx.fr_max (T : Tx K mg) : mg "max" = none := He.free_ok T.X T.G (T.fact 77 (f := .free "max") rfl)
theorem Tx.fr_isinstance (T : Tx K mg) : mg "isinstance" = none := He.free_ok T.X T.G (T.fact 78 (f := .free "isinstance") rfl)
theorem Tx.fr_all (T : Tx K mg) : mg "all" = none := He.free_ok T.X T.G (T.fact 79 (f := .free "all") rfl)
theorem Tx.fr_any (T : Tx K mg) : mg "any" = none := He.free_ok T.X T.G (T.fact 80 (f := .free "any") rfl)
theorem Tx.fr_abs (T : Tx K mg) : mg "abs" = none := He.free_ok T.X T.G (T.fact 81 (f := .free "abs") rfl)
theorem Tx.fr_list (T : Tx K mg) : mg "list" = none := He.free_ok T.X T.G (T.fact 82 (f := .free "list") rfl)
theorem Tx.fr_str (T : Tx K mg) : mg "str" = none := He.free_ok T.X T.G (T.fact 83 (f := .free "str") rfl)
theorem Tx.fr_range (T : Tx K mg) : mg "range" = none := He.free_ok T.X T.G (T.fact 84 (f := .free "range") rfl)
theorem Tx.fr_enumerate (T : Tx K mg) : mg "enumerate" = none := He.free_ok T.X T.G (T.fact 85 (f := .free "enumerate") rfl)
theorem Tx.fr_zip (T : Tx K mg) : mg "zip" = none := He.free_ok T.X T.G (T.fact 86 (f := .free "zip") rfl)
theorem Tx.fr_sorted (T : Tx K mg) : mg "sorted" = none := He.free_ok T.X T.G (T.fact 87 (f := .free "sorted") rfl)
theorem Tx.fr_int (T : Tx K mg) : mg "int" = none := He.free_ok T.X T.G (T.fact 88 (f := .free "int") rfl)
theorem Tx.fr_bool (T : Tx K mg) : mg "bool" = none := He.free_ok T.X T.G (T.fact 89 (f := .free "bool") rfl)
theorem Tx.fr_tuple (T : Tx K mg) : mg "tuple" = none := He.free_ok T.X T.G (T.fact 90 (f := .free "tuple") rfl)
theorem Tx.fr_dict (T : Tx K mg) : mg "dict" = none := He.free_ok T.X T.G (T.fact 91 (f := .free "dict") rfl)
theorem Tx.fr_set (T : Tx K mg) : mg "set" = none := He.free_ok T.X T.G (T.fact 92 (f := .free "set") rfl)
theorem Tx.in_MOST_ROOMS (T : Tx K mg) : ∃ t, mg "MOST_ROOMS" = some (.int 40 t) := He.int_ok T.X T.G (T.fact 93 (f := .int "MOST_ROOMS" 40) rfl)
theorem Tx.in_MOST_TURNS (T : Tx K mg) : ∃ t, mg "MOST_TURNS" = some (.int 9999 t) := He.int_ok T.X T.G (T.fact 94 (f := .int "MOST_TURNS" 9999) rfl)
theorem Tx.in_FRAMES (T : Tx K mg) : ∃ t, mg "FRAMES" = some (.int 4 t) := He.int_ok T.X T.G (T.fact 95 (f := .int "FRAMES" 4) rfl)
theorem Tx.in_DIRTY (T : Tx K mg) : ∃ t, mg "DIRTY" = some (.int 2 t) := He.int_ok T.X T.G (T.fact 96 (f := .int "DIRTY" 2) rfl)
theorem Tx.in_PATIENCE (T : Tx K mg) : ∃ t, mg "PATIENCE" = some (.int 3 t) := He.int_ok T.X T.G (T.fact 97 (f := .int "PATIENCE" 3) rfl)
theorem Tx.in_MOST_FRAMES (T : Tx K mg) : ∃ t, mg "MOST_FRAMES" = some (.int 8 t) := He.int_ok T.X T.G (T.fact 98 (f := .int "MOST_FRAMES" 8) rfl)
theorem Tx.in_MOST_PATIENCE (T : Tx K mg) : ∃ t, mg "MOST_PATIENCE" = some (.int 40 t) := He.int_ok T.X T.G (T.fact 99 (f := .int "MOST_PATIENCE" 40) rfl)
theorem Tx.in_MOST_IDLE (T : Tx K mg) : ∃ t, mg "MOST_IDLE" = some (.int 999 t) := He.int_ok T.X T.G (T.fact 100 (f := .int "MOST_IDLE" 999) rfl)
theorem Tx.gv_Disk (T : Tx K mg) : ∃ u, mg "Disk" = some u ∧ RelV (.ref (He.ga K "Disk")) u := ⟨_, T.gl_Disk, rfl⟩
theorem Tx.gv_Request (T : Tx K mg) : ∃ u, mg "Request" = some u ∧ RelV (.ref (He.ga K "Request")) u := ⟨_, T.gl_Request, rfl⟩
theorem Tx.gv_Queue (T : Tx K mg) : ∃ u, mg "Queue" = some u ∧ RelV (.ref (He.ga K "Queue")) u := ⟨_, T.gl_Queue, rfl⟩
theorem Tx.gv_Frame (T : Tx K mg) : ∃ u, mg "Frame" = some u ∧ RelV (.ref (He.ga K "Frame")) u := ⟨_, T.gl_Frame, rfl⟩
theorem Tx.gv_Store (T : Tx K mg) : ∃ u, mg "Store" = some u ∧ RelV (.ref (He.ga K "Store")) u := ⟨_, T.gl_Store, rfl⟩
theorem Tx.gv_is_whole (T : Tx K mg) : ∃ u, mg "is_whole" = some u ∧ RelV (.ref (He.ga K "is_whole")) u := ⟨_, T.gl_is_whole, rfl⟩
theorem Tx.gv_within (T : Tx K mg) : ∃ u, mg "within" = some u ∧ RelV (.ref (He.ga K "within")) u := ⟨_, T.gl_within, rfl⟩
theorem Tx.gv_spot_of (T : Tx K mg) : ∃ u, mg "spot_of" = some u ∧ RelV (.ref (He.ga K "spot_of")) u := ⟨_, T.gl_spot_of, rfl⟩
theorem Tx.gv__law_cell_at (T : Tx K mg) : ∃ u, mg "_law_cell_at" = some u ∧ RelV (.ref (He.ga K "_law_cell_at")) u := ⟨_, T.gl__law_cell_at, rfl⟩
theorem Tx.gv__law_draw (T : Tx K mg) : ∃ u, mg "_law_draw" = some u ∧ RelV (.ref (He.ga K "_law_draw")) u := ⟨_, T.gl__law_draw, rfl⟩
theorem Tx.gv__law_number (T : Tx K mg) : ∃ u, mg "_law_number" = some u ∧ RelV (.ref (He.ga K "_law_number")) u := ⟨_, T.gl__law_number, rfl⟩
theorem Tx.gv__law_next (T : Tx K mg) : ∃ u, mg "_law_next" = some u ∧ RelV (.ref (He.ga K "_law_next")) u := ⟨_, T.gl__law_next, rfl⟩
theorem Tx.gv__law_deed (T : Tx K mg) : ∃ u, mg "_law_deed" = some u ∧ RelV (.ref (He.ga K "_law_deed")) u := ⟨_, T.gl__law_deed, rfl⟩
theorem Tx.gv__law_ask (T : Tx K mg) : ∃ u, mg "_law_ask" = some u ∧ RelV (.ref (He.ga K "_law_ask")) u := ⟨_, T.gl__law_ask, rfl⟩
theorem Tx.gv_law (T : Tx K mg) : ∃ u, mg "law" = some u ∧ RelV (.ref (He.ga K "law")) u := ⟨_, T.gl_law, rfl⟩
theorem Tx.gc_MOST_ROOMS (T : Tx K mg) : ∃ u, mg "MOST_ROOMS" = some u ∧ RelV (.int 40) u := T.in_MOST_ROOMS.elim fun t e => ⟨_, e, t, rfl⟩
theorem Tx.gc_MOST_TURNS (T : Tx K mg) : ∃ u, mg "MOST_TURNS" = some u ∧ RelV (.int 9999) u := T.in_MOST_TURNS.elim fun t e => ⟨_, e, t, rfl⟩
theorem Tx.gc_FRAMES (T : Tx K mg) : ∃ u, mg "FRAMES" = some u ∧ RelV (.int 4) u := T.in_FRAMES.elim fun t e => ⟨_, e, t, rfl⟩
theorem Tx.gc_DIRTY (T : Tx K mg) : ∃ u, mg "DIRTY" = some u ∧ RelV (.int 2) u := T.in_DIRTY.elim fun t e => ⟨_, e, t, rfl⟩
theorem Tx.gc_PATIENCE (T : Tx K mg) : ∃ u, mg "PATIENCE" = some u ∧ RelV (.int 3) u := T.in_PATIENCE.elim fun t e => ⟨_, e, t, rfl⟩
theorem Tx.gc_MOST_FRAMES (T : Tx K mg) : ∃ u, mg "MOST_FRAMES" = some u ∧ RelV (.int 8) u := T.in_MOST_FRAMES.elim fun t e => ⟨_, e, t, rfl⟩
theorem Tx.gc_MOST_PATIENCE (T : Tx K mg) : ∃ u, mg "MOST_PATIENCE" = some u ∧ RelV (.int 40) u := T.in_MOST_PATIENCE.elim fun t e => ⟨_, e, t, rfl⟩
theorem Tx.gc_MOST_IDLE (T : Tx K mg) : ∃ u, mg "MOST_IDLE" = some u ∧ RelV (.int 999) u := T.in_MOST_IDLE.elim fun t e => ⟨_, e, t, rfl⟩
theorem Tx.bm_Queue_by_arm (T : Tx K mg) : BMeth K (He.ga K "Queue") "by_arm" (He.fAd K ("Queue", some "by_arm")) := by
  have h := T.extra 0 (f := fun K => decide (PySem.W.specialIn K (.ref (He.fAd K ("Queue", some "by_arm"))) "__get__" = some (some (.builtin "function.__get__"))) && (decide (PySem.W.takesIn K (.ref (He.fAd K ("Queue", some "by_arm"))) = some false) && PySem.W.fnIn K (He.fAd K ("Queue", some "by_arm")))) rfl
  exact ⟨T.mt_Queue_by_arm, of_decide_eq_true (He.ba h).1, of_decide_eq_true (He.ba (He.ba h).2).1, by decide +kernel, (He.ba (He.ba h).2).2⟩
theorem Tx.io_Disk (T : Tx K mg) : XB.InsOk K (He.ga K "Disk") := by
  have h := T.extra 1 (f := fun K => decide (PySem.W.findIn K (.ref (He.ga K "Disk")) "__class__" = some (some (.builtin "object.__class__"))) && (decide (PySem.W.specialIn K (.builtin "object.__class__") "__get__" = some (some (.builtin "getset_descriptor.__get__"))) && (decide (PySem.W.takesIn K (.builtin "object.__class__") = some true) && decide (PySem.W.mroIn K (He.ga K "Disk") (.type "object") = some true)))) rfl
  exact ⟨T.cl_Disk, of_decide_eq_true (He.ba h).1, of_decide_eq_true (He.ba (He.ba h).2).1, of_decide_eq_true (He.ba (He.ba (He.ba h).2).2).1, of_decide_eq_true (He.ba (He.ba (He.ba h).2).2).2⟩
theorem Tx.ki_Disk (T : Tx K mg) : PySem.W.kitOne K (.ref (He.ga K "Disk")) (.ref (He.ga K "Disk")) = some true := by
  have h := T.extra 2 (f := fun K => decide (PySem.W.kitOne K (.ref (He.ga K "Disk")) (.ref (He.ga K "Disk")) = some true)) rfl
  exact of_decide_eq_true h
theorem Tx.io_Request (T : Tx K mg) : XB.InsOk K (He.ga K "Request") := by
  have h := T.extra 3 (f := fun K => decide (PySem.W.findIn K (.ref (He.ga K "Request")) "__class__" = some (some (.builtin "object.__class__"))) && (decide (PySem.W.specialIn K (.builtin "object.__class__") "__get__" = some (some (.builtin "getset_descriptor.__get__"))) && (decide (PySem.W.takesIn K (.builtin "object.__class__") = some true) && decide (PySem.W.mroIn K (He.ga K "Request") (.type "object") = some true)))) rfl
  exact ⟨T.cl_Request, of_decide_eq_true (He.ba h).1, of_decide_eq_true (He.ba (He.ba h).2).1, of_decide_eq_true (He.ba (He.ba (He.ba h).2).2).1, of_decide_eq_true (He.ba (He.ba (He.ba h).2).2).2⟩
theorem Tx.ki_Request (T : Tx K mg) : PySem.W.kitOne K (.ref (He.ga K "Request")) (.ref (He.ga K "Request")) = some true := by
  have h := T.extra 4 (f := fun K => decide (PySem.W.kitOne K (.ref (He.ga K "Request")) (.ref (He.ga K "Request")) = some true)) rfl
  exact of_decide_eq_true h
theorem Tx.io_Queue (T : Tx K mg) : XB.InsOk K (He.ga K "Queue") := by
  have h := T.extra 5 (f := fun K => decide (PySem.W.findIn K (.ref (He.ga K "Queue")) "__class__" = some (some (.builtin "object.__class__"))) && (decide (PySem.W.specialIn K (.builtin "object.__class__") "__get__" = some (some (.builtin "getset_descriptor.__get__"))) && (decide (PySem.W.takesIn K (.builtin "object.__class__") = some true) && decide (PySem.W.mroIn K (He.ga K "Queue") (.type "object") = some true)))) rfl
  exact ⟨T.cl_Queue, of_decide_eq_true (He.ba h).1, of_decide_eq_true (He.ba (He.ba h).2).1, of_decide_eq_true (He.ba (He.ba (He.ba h).2).2).1, of_decide_eq_true (He.ba (He.ba (He.ba h).2).2).2⟩
theorem Tx.ki_Queue (T : Tx K mg) : PySem.W.kitOne K (.ref (He.ga K "Queue")) (.ref (He.ga K "Queue")) = some true := by
  have h := T.extra 6 (f := fun K => decide (PySem.W.kitOne K (.ref (He.ga K "Queue")) (.ref (He.ga K "Queue")) = some true)) rfl
  exact of_decide_eq_true h
theorem Tx.io_Frame (T : Tx K mg) : XB.InsOk K (He.ga K "Frame") := by
  have h := T.extra 7 (f := fun K => decide (PySem.W.findIn K (.ref (He.ga K "Frame")) "__class__" = some (some (.builtin "object.__class__"))) && (decide (PySem.W.specialIn K (.builtin "object.__class__") "__get__" = some (some (.builtin "getset_descriptor.__get__"))) && (decide (PySem.W.takesIn K (.builtin "object.__class__") = some true) && decide (PySem.W.mroIn K (He.ga K "Frame") (.type "object") = some true)))) rfl
  exact ⟨T.cl_Frame, of_decide_eq_true (He.ba h).1, of_decide_eq_true (He.ba (He.ba h).2).1, of_decide_eq_true (He.ba (He.ba (He.ba h).2).2).1, of_decide_eq_true (He.ba (He.ba (He.ba h).2).2).2⟩
theorem Tx.ki_Frame (T : Tx K mg) : PySem.W.kitOne K (.ref (He.ga K "Frame")) (.ref (He.ga K "Frame")) = some true := by
  have h := T.extra 8 (f := fun K => decide (PySem.W.kitOne K (.ref (He.ga K "Frame")) (.ref (He.ga K "Frame")) = some true)) rfl
  exact of_decide_eq_true h
theorem Tx.io_Store (T : Tx K mg) : XB.InsOk K (He.ga K "Store") := by
  have h := T.extra 9 (f := fun K => decide (PySem.W.findIn K (.ref (He.ga K "Store")) "__class__" = some (some (.builtin "object.__class__"))) && (decide (PySem.W.specialIn K (.builtin "object.__class__") "__get__" = some (some (.builtin "getset_descriptor.__get__"))) && (decide (PySem.W.takesIn K (.builtin "object.__class__") = some true) && decide (PySem.W.mroIn K (He.ga K "Store") (.type "object") = some true)))) rfl
  exact ⟨T.cl_Store, of_decide_eq_true (He.ba h).1, of_decide_eq_true (He.ba (He.ba h).2).1, of_decide_eq_true (He.ba (He.ba (He.ba h).2).2).1, of_decide_eq_true (He.ba (He.ba (He.ba h).2).2).2⟩
theorem Tx.ki_Store (T : Tx K mg) : PySem.W.kitOne K (.ref (He.ga K "Store")) (.ref (He.ga K "Store")) = some true := by
  have h := T.extra 10 (f := fun K => decide (PySem.W.kitOne K (.ref (He.ga K "Store")) (.ref (He.ga K "Store")) = some true)) rfl
  exact of_decide_eq_true h
theorem Tx.ne_Disk_Request (T : Tx K mg) : He.ga K "Disk" ≠ He.ga K "Request" := by
  have h := T.extra 11 (f := fun K => decide (He.ga K "Disk" ≠ He.ga K "Request")) rfl
  exact of_decide_eq_true h
theorem Tx.ne_Disk_Queue (T : Tx K mg) : He.ga K "Disk" ≠ He.ga K "Queue" := by
  have h := T.extra 12 (f := fun K => decide (He.ga K "Disk" ≠ He.ga K "Queue")) rfl
  exact of_decide_eq_true h
theorem Tx.ne_Request_Queue (T : Tx K mg) : He.ga K "Request" ≠ He.ga K "Queue" := by
  have h := T.extra 13 (f := fun K => decide (He.ga K "Request" ≠ He.ga K "Queue")) rfl
  exact of_decide_eq_true h
theorem Tx.ne_Disk_Frame (T : Tx K mg) : He.ga K "Disk" ≠ He.ga K "Frame" := by
  have h := T.extra 14 (f := fun K => decide (He.ga K "Disk" ≠ He.ga K "Frame")) rfl
  exact of_decide_eq_true h
theorem Tx.ne_Request_Frame (T : Tx K mg) : He.ga K "Request" ≠ He.ga K "Frame" := by
  have h := T.extra 15 (f := fun K => decide (He.ga K "Request" ≠ He.ga K "Frame")) rfl
  exact of_decide_eq_true h
theorem Tx.ne_Queue_Frame (T : Tx K mg) : He.ga K "Queue" ≠ He.ga K "Frame" := by
  have h := T.extra 16 (f := fun K => decide (He.ga K "Queue" ≠ He.ga K "Frame")) rfl
  exact of_decide_eq_true h
theorem Tx.ne_Disk_Store (T : Tx K mg) : He.ga K "Disk" ≠ He.ga K "Store" := by
  have h := T.extra 17 (f := fun K => decide (He.ga K "Disk" ≠ He.ga K "Store")) rfl
  exact of_decide_eq_true h
theorem Tx.ne_Request_Store (T : Tx K mg) : He.ga K "Request" ≠ He.ga K "Store" := by
  have h := T.extra 18 (f := fun K => decide (He.ga K "Request" ≠ He.ga K "Store")) rfl
  exact of_decide_eq_true h
theorem Tx.ne_Queue_Store (T : Tx K mg) : He.ga K "Queue" ≠ He.ga K "Store" := by
  have h := T.extra 19 (f := fun K => decide (He.ga K "Queue" ≠ He.ga K "Store")) rfl
  exact of_decide_eq_true h
theorem Tx.ne_Frame_Store (T : Tx K mg) : He.ga K "Frame" ≠ He.ga K "Store" := by
  have h := T.extra 20 (f := fun K => decide (He.ga K "Frame" ≠ He.ga K "Store")) rfl
  exact of_decide_eq_true h
end
theorem mk_pf {K : PySem.W.Frag} {mg : Str → Option Value} (T : Tx K mg) : PF K := {
  cl_Disk := T.cl_Disk,
  cl_Request := T.cl_Request,
  cl_Queue := T.cl_Queue,
  cl_Frame := T.cl_Frame,
  cl_Store := T.cl_Store,
  na_Disk_sure := T.na_Disk_sure,
  na_Disk_open_lots := T.na_Disk_open_lots,
  na_Disk_left := T.na_Disk_left,
  na_Request_count := T.na_Request_count,
  na_Request_spot := T.na_Request_spot,
  na_Request_number := T.na_Request_number,
  na_Request_seen := T.na_Request_seen,
  na_Queue_patience := T.na_Queue_patience,
  na_Queue_row := T.na_Queue_row,
  na_Queue_put_so_far := T.na_Queue_put_so_far,
  na_Queue_spot := T.na_Queue_spot,
  na_Frame_spot := T.na_Frame_spot,
  na_Frame_number := T.na_Frame_number,
  na_Frame_dirty := T.na_Frame_dirty,
  na_Store_disk := T.na_Store_disk,
  na_Store_most_frames := T.na_Store_most_frames,
  na_Store_most_dirty := T.na_Store_most_dirty,
  na_Store_frames := T.na_Store_frames,
  na_Store_waiting := T.na_Store_waiting,
  io_Disk := T.io_Disk,
  ki_Disk := T.ki_Disk,
  ne_Disk_Request := T.ne_Disk_Request,
  ne_Disk_Queue := T.ne_Disk_Queue,
  ne_Disk_Frame := T.ne_Disk_Frame,
  ne_Disk_Store := T.ne_Disk_Store,
  ne_Request_Queue := T.ne_Request_Queue,
  ne_Request_Frame := T.ne_Request_Frame,
  ne_Request_Store := T.ne_Request_Store,
  ne_Queue_Frame := T.ne_Queue_Frame,
  ne_Queue_Store := T.ne_Queue_Store,
  ne_Frame_Store := T.ne_Frame_Store }
/-! ### each def, by its body -/
section
variable {P : Program} {w : World} {K : PySem.W.Frag} {mg : Str → Option Value} {base : Heap}
theorem sc_spot_of : FnScope ["frame"] ["frame"] (defScope s_spot_of) := ⟨rfl, rfl, rfl, by decide +kernel, rfl, by decide +kernel, by decide +kernel⟩
theorem ok_spot_of (T : Tx K mg) (pf : PF K) : ∃ fd, FunD K "spot_of" "spot_of" (defArgs s_spot_of) (defBody s_spot_of) (defScope s_spot_of) [] [] (He.fAd K ("spot_of", none)) fd ∧ FnOk P w K mg base CX0 1 (He.fAd K ("spot_of", none)) fd ["frame"] (sp_spot_of K) := by
  obtain ⟨fd, F⟩ := T.def_ 38 (d := d_spot_of) rfl
  refine ⟨fd, F, F.ok sc_spot_of len_spot_of (fun cdv A outer s H vs Q E hr h => ⟨t_spot_of K, PSs.nox ?_, pure_spot_of pf h⟩)⟩
  have nd := (sc_spot_of).nd
  exact (pss_one (ps_ret (pe_fld (pv 0) rfl)))
theorem cal_spot_of (T : Tx K mg) (pf : PF K) : Cal P w K mg base 1 "spot_of" (sp_spot_of K) [] := by
  obtain ⟨fd, F, G⟩ := ok_spot_of (P := P) (w := w) (base := base) T pf
  exact ⟨_, fd, _, [], G, T.gl_spot_of, F.kp, F.bindsN fun _ _ _ _ _ _ us hl => match us, hl with | [_], _ => rfl, .nil⟩
theorem sk_spot_of {X : Cx} (T : Tx X.K X.mg) (hr : Room 3 X.A) : CallRK X (.builtin "sorted") [Str.ofString "key"] (rSortKey X.K (He.ga X.K "spot_of") (He.ga X.K "Frame") "spot") := by
  obtain ⟨fd, F⟩ := T.def_ 38 (d := d_spot_of) rfl
  exact call_sortKey F sc_spot_of (F.bindsN fun _ _ _ _ _ _ us hl => match us, hl with | [_], _ => rfl) hr T.cl_Frame T.na_Frame_spot
theorem sc_is_whole : FnScope ["thing"] ["thing"] (defScope s_is_whole) := ⟨rfl, rfl, rfl, by decide +kernel, rfl, by decide +kernel, by decide +kernel⟩
theorem ok_is_whole (T : Tx K mg) (pf : PF K) : ∃ fd, FunD K "is_whole" "is_whole" (defArgs s_is_whole) (defBody s_is_whole) (defScope s_is_whole) [] [] (He.fAd K ("is_whole", none)) fd ∧ FnOk P w K mg base CX0 1 (He.fAd K ("is_whole", none)) fd ["thing"] (sp_is_whole K) := by
  obtain ⟨fd, F⟩ := T.def_ 0 (d := d_is_whole) rfl
  refine ⟨fd, F, F.ok sc_is_whole len_is_whole (fun cdv A outer s H vs Q E hr h => ⟨t_is_whole K, PSs.nox ?_, pure_is_whole pf h⟩)⟩
  have nd := (sc_is_whole).nd
  exact (pss_one (ps_ret (pe_and (pe_callB call_isi rfl T.fr_isinstance boot_isinstance (pa_cons (pv 0) (pa_cons (pe_bltn (v := .ty "int") rfl T.fr_int boot_int rfl) pa_nil))) (pe_one (pe_not (pe_callB call_isi rfl T.fr_isinstance boot_isinstance (pa_cons (pv 0) (pa_cons (pe_bltn (v := .ty "bool") rfl T.fr_bool boot_bool rfl) pa_nil))))))))
theorem cal_is_whole (T : Tx K mg) (pf : PF K) : Cal P w K mg base 1 "is_whole" (sp_is_whole K) [] := by
  obtain ⟨fd, F, G⟩ := ok_is_whole (P := P) (w := w) (base := base) T pf
  exact ⟨_, fd, _, [], G, T.gl_is_whole, F.kp, F.bindsN fun _ _ _ _ _ _ us hl => match us, hl with | [_], _ => rfl, .nil⟩
theorem sc_within : FnScope ["thing", "low", "high"] ["thing", "low", "high"] (defScope s_within) := ⟨rfl, rfl, rfl, by decide +kernel, rfl, by decide +kernel, by decide +kernel⟩
theorem ok_within (T : Tx K mg) (pf : PF K) : ∃ fd, FunD K "within" "within" (defArgs s_within) (defBody s_within) (defScope s_within) [] [] (He.fAd K ("within", none)) fd ∧ FnOk P w K mg base CX0 2 (He.fAd K ("within", none)) fd ["thing", "low", "high"] (sp_within K) := by
  obtain ⟨fd, F⟩ := T.def_ 1 (d := d_within) rfl
  refine ⟨fd, F, F.ok sc_within len_within (fun cdv A outer s H vs Q E hr h => ⟨t_within K, PSs.nox ?_, pure_within pf h⟩)⟩
  have nd := (sc_within).nd
  exact (pss_one (ps_ret (pe_and (pe_c (cal_is_whole T pf) hr (by decide) rfl (pa_cons (pv 0) pa_nil)) (pe_one (pe_chain op_le op_le (pv 1) (pv 0) (pv 2))))))
theorem cal_within (T : Tx K mg) (pf : PF K) : Cal P w K mg base 2 "within" (sp_within K) [] := by
  obtain ⟨fd, F, G⟩ := ok_within (P := P) (w := w) (base := base) T pf
  exact ⟨_, fd, _, [], G, T.gl_within, F.kp, F.bindsN fun _ _ _ _ _ _ us hl => match us, hl with | [_, _, _], _ => rfl, .nil⟩
theorem sc_Disk_init : FnScope ["self", "rooms"] ["self", "rooms"] (defScope s_Disk_init) := ⟨rfl, rfl, rfl, by decide +kernel, rfl, by decide +kernel, by decide +kernel⟩
theorem ok_Disk_init (T : Tx K mg) (pf : PF K) : ∃ fd, FunD K "__init__" "Disk.__init__" (defArgs s_Disk_init) (defBody s_Disk_init) (defScope s_Disk_init) [] [] (He.fAd K ("Disk", some "__init__")) fd ∧ FnOk P w K mg base CX0 3 (He.fAd K ("Disk", some "__init__")) fd ["self", "rooms"] (sp_Disk_init K) := by
  obtain ⟨fd, F⟩ := T.def_ 2 (d := d_Disk_init) rfl
  refine ⟨fd, F, F.ok sc_Disk_init len_Disk_init (fun cdv A outer s H vs Q E hr h => ⟨t_Disk_init K, PSs.nox ?_, pure_Disk_init pf h⟩)⟩
  have nd := (sc_Disk_init).nd
  exact (pss_cons (ps_if (pt_not (pt_val (pe_c (cal_within T pf) hr (by decide) rfl (pa_cons (pv 1) (pa_cons pe_int (pa_cons (pe_gc rfl (T.gc_MOST_ROOMS)) pa_nil)))))) (pss_one ps_never) pss_nil)
    (pss_cons (ps_fld (pv 0) (pe_op op_rep (pe_lst (pa_cons pe_int pa_nil)) (pv 1)) rfl)
    (pss_cons (ps_fld (pv 0) (pe_lst (pa_cons (pe_lst pa_nil) pa_nil)) rfl)
    (pss_one (ps_fld (pv 0) pe_non rfl)))))
theorem mak_Disk (T : Tx K mg) (pf : PF K) : Mak P w K mg base 3 "Disk" (He.ga K "Disk") (sp_Disk_init K) [] := by
  obtain ⟨fd, F, G⟩ := ok_Disk_init (P := P) (w := w) (base := base) T pf
  exact ⟨_, fd, _, [], T.mk_Disk, G, T.gl_Disk, F.bindsN fun _ _ _ _ _ _ us hl => match us, hl with | [_, _], _ => rfl, .nil⟩
theorem sc_Disk_rooms : FnScope ["self"] ["self"] (defScope s_Disk_rooms) := ⟨rfl, rfl, rfl, by decide +kernel, rfl, by decide +kernel, by decide +kernel⟩
theorem ok_Disk_rooms (T : Tx K mg) (pf : PF K) : ∃ fd, FunD K "rooms" "Disk.rooms" (defArgs s_Disk_rooms) (defBody s_Disk_rooms) (defScope s_Disk_rooms) [] [] (He.fAd K ("Disk", some "rooms")) fd ∧ FnOk P w K mg base CX0 1 (He.fAd K ("Disk", some "rooms")) fd ["self"] (sp_Disk_rooms K) := by
  obtain ⟨fd, F⟩ := T.def_ 3 (d := d_Disk_rooms) rfl
  refine ⟨fd, F, F.ok sc_Disk_rooms len_Disk_rooms (fun cdv A outer s H vs Q E hr h => ⟨t_Disk_rooms K, PSs.nox ?_, pure_Disk_rooms pf h⟩)⟩
  have nd := (sc_Disk_rooms).nd
  exact (pss_one (ps_ret (pe_callB call_len_seq rfl T.fr_len boot_len (pa_cons (pe_fld (pv 0) rfl) pa_nil))))
theorem met_Disk_rooms (T : Tx K mg) (pf : PF K) : Met P w K mg base 1 (He.ga K "Disk") "rooms" (sp_Disk_rooms K) [] := by
  obtain ⟨fd, F, G⟩ := ok_Disk_rooms (P := P) (w := w) (base := base) T pf
  exact ⟨_, fd, _, [], T.cl_Disk, T.mt_Disk_rooms, G, F.bindsN fun _ _ _ _ _ _ us hl => match us, hl with | [_], _ => rfl, .nil⟩
theorem sc_Disk_lasting : FnScope ["self"] ["self"] (defScope s_Disk_lasting) := ⟨rfl, rfl, rfl, by decide +kernel, rfl, by decide +kernel, by decide +kernel⟩
theorem ok_Disk_lasting (T : Tx K mg) (pf : PF K) : ∃ fd, FunD K "lasting" "Disk.lasting" (defArgs s_Disk_lasting) (defBody s_Disk_lasting) (defScope s_Disk_lasting) [] [] (He.fAd K ("Disk", some "lasting")) fd ∧ FnOk P w K mg base CX0 1 (He.fAd K ("Disk", some "lasting")) fd ["self"] (sp_Disk_lasting K) := by
  obtain ⟨fd, F⟩ := T.def_ 4 (d := d_Disk_lasting) rfl
  refine ⟨fd, F, F.ok sc_Disk_lasting len_Disk_lasting (fun cdv A outer s H vs Q E hr h => ⟨t_Disk_lasting K, PSs.nox ?_, pure_Disk_lasting pf h⟩)⟩
  have nd := (sc_Disk_lasting).nd
  exact (pss_one (ps_ret (pe_callTy call_list_of rfl T.fr_list boot_list (pa_cons (pe_fld (pv 0) rfl) pa_nil))))
theorem met_Disk_lasting (T : Tx K mg) (pf : PF K) : Met P w K mg base 1 (He.ga K "Disk") "lasting" (sp_Disk_lasting K) [] := by
  obtain ⟨fd, F, G⟩ := ok_Disk_lasting (P := P) (w := w) (base := base) T pf
  exact ⟨_, fd, _, [], T.cl_Disk, T.mt_Disk_lasting, G, F.bindsN fun _ _ _ _ _ _ us hl => match us, hl with | [_], _ => rfl, .nil⟩
theorem sc_Disk_lots : FnScope ["self", "lot"] ["self"] (defScope s_Disk_lots) := ⟨rfl, rfl, rfl, by decide +kernel, rfl, by decide +kernel, by decide +kernel⟩
theorem ok_Disk_lots (T : Tx K mg) (pf : PF K) : ∃ fd, FunD K "lots" "Disk.lots" (defArgs s_Disk_lots) (defBody s_Disk_lots) (defScope s_Disk_lots) [] [] (He.fAd K ("Disk", some "lots")) fd ∧ FnOk P w K mg base CX0 1 (He.fAd K ("Disk", some "lots")) fd ["self"] (sp_Disk_lots K) := by
  obtain ⟨fd, F⟩ := T.def_ 5 (d := d_Disk_lots) rfl
  refine ⟨fd, F, F.ok sc_Disk_lots len_Disk_lots (fun cdv A outer s H vs Q E hr h => ⟨t_Disk_lots K, PSs.nox ?_, pure_Disk_lots pf h⟩)⟩
  have nd := (sc_Disk_lots).nd
  exact (pss_one (ps_ret (pe_lc (own := [("lot", 1)]) rfl nd (pi_list (pe_fld (pv 0) rfl)) (blkOk_by (N := ["self", "lot"]) (sc := defScope s_Disk_lots) (by decide +kernel)) (fun _ _ _ _ _ => (pg_name (i := 1) nd rfl (by first | exact Or.inl rfl | exact Or.inr rfl))) (fun _ _ _ _ _ => pts_nil) (fun _ _ _ _ _ => (pe_callTy call_list_of rfl T.fr_list boot_list (pa_cons (pv 1) pa_nil))))))
theorem met_Disk_lots (T : Tx K mg) (pf : PF K) : Met P w K mg base 1 (He.ga K "Disk") "lots" (sp_Disk_lots K) [] := by
  obtain ⟨fd, F, G⟩ := ok_Disk_lots (P := P) (w := w) (base := base) T pf
  exact ⟨_, fd, _, [], T.cl_Disk, T.mt_Disk_lots, G, F.bindsN fun _ _ _ _ _ _ us hl => match us, hl with | [_], _ => rfl, .nil⟩
theorem sc_Disk_with_lots : FnScope ["self", "many", "found", "room", "number", "lot", "pair"] ["self", "many"] (defScope s_Disk_with_lots) := ⟨rfl, rfl, rfl, by decide +kernel, rfl, by decide +kernel, by decide +kernel⟩
theorem ok_Disk_with_lots (T : Tx K mg) (pf : PF K) : ∃ fd, FunD K "with_lots" "Disk.with_lots" (defArgs s_Disk_with_lots) (defBody s_Disk_with_lots) (defScope s_Disk_with_lots) [] [] (He.fAd K ("Disk", some "with_lots")) fd ∧ FnOk P w K mg base CX0 1 (He.fAd K ("Disk", some "with_lots")) fd ["self", "many"] (sp_Disk_with_lots K) := by
  obtain ⟨fd, F⟩ := T.def_ 6 (d := d_Disk_with_lots) rfl
  refine ⟨fd, F, F.ok sc_Disk_with_lots len_Disk_with_lots (fun cdv A outer s H vs Q E hr h => ⟨t_Disk_with_lots K, PSs.nox ?_, pure_Disk_with_lots pf h⟩)⟩
  have nd := (sc_Disk_with_lots).nd
  exact (pss_cons (ps_set (i := 2) nd rfl (by first | exact Or.inl rfl | exact Or.inr rfl) (pe_callTy call_list_of rfl T.fr_list boot_list (pa_cons (pe_fld (pv 0) rfl) pa_nil)))
    (pss_cons (ps_for PassesOwn.never rfl (pi_list (pe_lc2 (own := [("lot", 5), ("pair", 6)]) (vs1 := [6]) rfl nd (pi_list (pe_slice sl_list (pe_fld (pv 0) rfl) po_none (po_some (pv 1)))) (blkOk_by (N := ["self", "many", "found", "room", "number", "lot", "pair"]) (sc := defScope s_Disk_with_lots) (by decide +kernel)) (by decide) (fun _ _ _ _ _ => (pg_name (i := 5) nd rfl (by first | exact Or.inl rfl | exact Or.inr rfl))) (fun _ _ _ _ _ => pts_nil) (fun _ _ _ _ _ => (pi_list (pv 5))) (fun _ _ _ _ _ => (pg_name (i := 6) nd rfl (by first | exact Or.inl rfl | exact Or.inr rfl))) (fun _ _ _ _ _ => pts_nil) (fun _ _ _ _ _ => (pv 6)))) (pg_tup rfl (pgs_cons (pg_name (i := 3) nd rfl (by first | exact Or.inl rfl | exact Or.inr rfl)) (pgs_cons (pg_name (i := 4) nd rfl (by first | exact Or.inl rfl | exact Or.inr rfl)) pgs_nil))) (pss_one (ps_asg (pv 4) (pg_sub (pv 2) (pv 3) set_list))))
    (pss_one (ps_ret (pv 2)))))
theorem met_Disk_with_lots (T : Tx K mg) (pf : PF K) : Met P w K mg base 1 (He.ga K "Disk") "with_lots" (sp_Disk_with_lots K) [] := by
  obtain ⟨fd, F, G⟩ := ok_Disk_with_lots (P := P) (w := w) (base := base) T pf
  exact ⟨_, fd, _, [], T.cl_Disk, T.mt_Disk_with_lots, G, F.bindsN fun _ _ _ _ _ _ us hl => match us, hl with | [_, _], _ => rfl, .nil⟩
theorem sc_Disk_shown : FnScope ["self"] ["self"] (defScope s_Disk_shown) := ⟨rfl, rfl, rfl, by decide +kernel, rfl, by decide +kernel, by decide +kernel⟩
theorem ok_Disk_shown (T : Tx K mg) (pf : PF K) : ∃ fd, FunD K "shown" "Disk.shown" (defArgs s_Disk_shown) (defBody s_Disk_shown) (defScope s_Disk_shown) [] [] (He.fAd K ("Disk", some "shown")) fd ∧ FnOk P w K mg base CX0 2 (He.fAd K ("Disk", some "shown")) fd ["self"] (sp_Disk_shown K) := by
  obtain ⟨fd, F⟩ := T.def_ 7 (d := d_Disk_shown) rfl
  refine ⟨fd, F, F.ok sc_Disk_shown len_Disk_shown (fun cdv A outer s H vs Q E hr h => ⟨t_Disk_shown K, PSs.nox ?_, pure_Disk_shown pf h⟩)⟩
  have nd := (sc_Disk_shown).nd
  exact (pss_one (ps_ret (pe_mt (met_Disk_with_lots T pf) hr (by decide) (pv 0) (pa_cons (pe_callB call_len_seq rfl T.fr_len boot_len (pa_cons (pe_fld (pv 0) rfl) pa_nil)) pa_nil))))
theorem met_Disk_shown (T : Tx K mg) (pf : PF K) : Met P w K mg base 2 (He.ga K "Disk") "shown" (sp_Disk_shown K) [] := by
  obtain ⟨fd, F, G⟩ := ok_Disk_shown (P := P) (w := w) (base := base) T pf
  exact ⟨_, fd, _, [], T.cl_Disk, T.mt_Disk_shown, G, F.bindsN fun _ _ _ _ _ _ us hl => match us, hl with | [_], _ => rfl, .nil⟩
theorem sc_Disk_turn : FnScope ["self"] ["self"] (defScope s_Disk_turn) := ⟨rfl, rfl, rfl, by decide +kernel, rfl, by decide +kernel, by decide +kernel⟩
theorem ok_Disk_turn (T : Tx K mg) (pf : PF K) : ∃ fd, FunD K "turn" "Disk.turn" (defArgs s_Disk_turn) (defBody s_Disk_turn) (defScope s_Disk_turn) [] [] (He.fAd K ("Disk", some "turn")) fd ∧ FnOk P w K mg base CX0 1 (He.fAd K ("Disk", some "turn")) fd ["self"] (sp_Disk_turn K) := by
  obtain ⟨fd, F⟩ := T.def_ 8 (d := d_Disk_turn) rfl
  refine ⟨fd, F, F.ok sc_Disk_turn len_Disk_turn (fun cdv A outer s H vs Q E hr h => ⟨t_Disk_turn K, PSs.nox ?_, pure_Disk_turn pf h⟩)⟩
  have nd := (sc_Disk_turn).nd
  exact (pss_cons (ps_if (pt_cmpR op_eq (pe_fld (pv 0) rfl) pe_int (nomark _)) (pss_one ps_never) pss_nil)
    (pss_one (ps_if (pt_cmpR op_notN (pe_fld (pv 0) rfl) pe_non (nomark _)) (pss_one (ps_fldaug (pv 0) pe_int in_sub)) pss_nil)))
theorem met_Disk_turn (T : Tx K mg) (pf : PF K) : Met P w K mg base 1 (He.ga K "Disk") "turn" (sp_Disk_turn K) [] := by
  obtain ⟨fd, F, G⟩ := ok_Disk_turn (P := P) (w := w) (base := base) T pf
  exact ⟨_, fd, _, [], T.cl_Disk, T.mt_Disk_turn, G, F.bindsN fun _ _ _ _ _ _ us hl => match us, hl with | [_], _ => rfl, .nil⟩
theorem sc_Disk_ask_read : FnScope ["self", "room"] ["self", "room"] (defScope s_Disk_ask_read) := ⟨rfl, rfl, rfl, by decide +kernel, rfl, by decide +kernel, by decide +kernel⟩
theorem ok_Disk_ask_read (T : Tx K mg) (pf : PF K) : ∃ fd, FunD K "ask_read" "Disk.ask_read" (defArgs s_Disk_ask_read) (defBody s_Disk_ask_read) (defScope s_Disk_ask_read) [] [] (He.fAd K ("Disk", some "ask_read")) fd ∧ FnOk P w K mg base CX0 3 (He.fAd K ("Disk", some "ask_read")) fd ["self", "room"] (sp_Disk_ask_read K) := by
  obtain ⟨fd, F⟩ := T.def_ 9 (d := d_Disk_ask_read) rfl
  refine ⟨fd, F, F.ok sc_Disk_ask_read len_Disk_ask_read (fun cdv A outer s H vs Q E hr h => ⟨t_Disk_ask_read K, PSs.nox ?_, pure_Disk_ask_read pf h⟩)⟩
  have nd := (sc_Disk_ask_read).nd
  exact (pss_cons (ps_expr (pe_mt0 (met_Disk_turn T pf) hr (by decide) (pv 0)))
    (pss_one (ps_ret (pe_ix ix_list (pe_mt0 (met_Disk_shown T pf) hr (by decide) (pv 0)) (pv 1) (fun _ _ => rfl)))))
theorem met_Disk_ask_read (T : Tx K mg) (pf : PF K) : Met P w K mg base 3 (He.ga K "Disk") "ask_read" (sp_Disk_ask_read K) [] := by
  obtain ⟨fd, F, G⟩ := ok_Disk_ask_read (P := P) (w := w) (base := base) T pf
  exact ⟨_, fd, _, [], T.cl_Disk, T.mt_Disk_ask_read, G, F.bindsN fun _ _ _ _ _ _ us hl => match us, hl with | [_, _], _ => rfl, .nil⟩
theorem sc_Disk_ask_write : FnScope ["self", "room", "number"] ["self", "room", "number"] (defScope s_Disk_ask_write) := ⟨rfl, rfl, rfl, by decide +kernel, rfl, by decide +kernel, by decide +kernel⟩
theorem ok_Disk_ask_write (T : Tx K mg) (pf : PF K) : ∃ fd, FunD K "ask_write" "Disk.ask_write" (defArgs s_Disk_ask_write) (defBody s_Disk_ask_write) (defScope s_Disk_ask_write) [] [] (He.fAd K ("Disk", some "ask_write")) fd ∧ FnOk P w K mg base CX0 2 (He.fAd K ("Disk", some "ask_write")) fd ["self", "room", "number"] (sp_Disk_ask_write K) := by
  obtain ⟨fd, F⟩ := T.def_ 10 (d := d_Disk_ask_write) rfl
  refine ⟨fd, F, F.ok sc_Disk_ask_write len_Disk_ask_write (fun cdv A outer s H vs Q E hr h => ⟨t_Disk_ask_write K, PSs.nox ?_, pure_Disk_ask_write pf h⟩)⟩
  have nd := (sc_Disk_ask_write).nd
  exact (pss_cons (ps_expr (pe_mt0 (met_Disk_turn T pf) hr (by decide) (pv 0)))
    (pss_one (ps_expr (pe_bm PySem.F.plainAttrs_list PySem.F.slot_list_append PySem.F.type_list_append mt_append (pe_ix ix_list (pe_fld (pv 0) rfl) (pe_un un_neg pe_int) (fun _ _ => rfl)) (pa_cons (pe_tup (pa_cons (pv 1) (pa_cons (pv 2) pa_nil))) pa_nil)))))
theorem met_Disk_ask_write (T : Tx K mg) (pf : PF K) : Met P w K mg base 2 (He.ga K "Disk") "ask_write" (sp_Disk_ask_write K) [] := by
  obtain ⟨fd, F, G⟩ := ok_Disk_ask_write (P := P) (w := w) (base := base) T pf
  exact ⟨_, fd, _, [], T.cl_Disk, T.mt_Disk_ask_write, G, F.bindsN fun _ _ _ _ _ _ us hl => match us, hl with | [_, _, _], _ => rfl, .nil⟩
theorem sc_Disk_ask_barrier : FnScope ["self"] ["self"] (defScope s_Disk_ask_barrier) := ⟨rfl, rfl, rfl, by decide +kernel, rfl, by decide +kernel, by decide +kernel⟩
theorem ok_Disk_ask_barrier (T : Tx K mg) (pf : PF K) : ∃ fd, FunD K "ask_barrier" "Disk.ask_barrier" (defArgs s_Disk_ask_barrier) (defBody s_Disk_ask_barrier) (defScope s_Disk_ask_barrier) [] [] (He.fAd K ("Disk", some "ask_barrier")) fd ∧ FnOk P w K mg base CX0 2 (He.fAd K ("Disk", some "ask_barrier")) fd ["self"] (sp_Disk_ask_barrier K) := by
  obtain ⟨fd, F⟩ := T.def_ 11 (d := d_Disk_ask_barrier) rfl
  refine ⟨fd, F, F.ok sc_Disk_ask_barrier len_Disk_ask_barrier (fun cdv A outer s H vs Q E hr h => ⟨t_Disk_ask_barrier K, PSs.nox ?_, pure_Disk_ask_barrier pf h⟩)⟩
  have nd := (sc_Disk_ask_barrier).nd
  exact (pss_cons (ps_expr (pe_mt0 (met_Disk_turn T pf) hr (by decide) (pv 0)))
    (pss_one (ps_expr (pe_bm PySem.F.plainAttrs_list PySem.F.slot_list_append PySem.F.type_list_append mt_append (pe_fld (pv 0) rfl) (pa_cons (pe_lst pa_nil) pa_nil)))))
theorem met_Disk_ask_barrier (T : Tx K mg) (pf : PF K) : Met P w K mg base 2 (He.ga K "Disk") "ask_barrier" (sp_Disk_ask_barrier K) [] := by
  obtain ⟨fd, F, G⟩ := ok_Disk_ask_barrier (P := P) (w := w) (base := base) T pf
  exact ⟨_, fd, _, [], T.cl_Disk, T.mt_Disk_ask_barrier, G, F.bindsN fun _ _ _ _ _ _ us hl => match us, hl with | [_], _ => rfl, .nil⟩
theorem sc_Disk_ask_flush : FnScope ["self"] ["self"] (defScope s_Disk_ask_flush) := ⟨rfl, rfl, rfl, by decide +kernel, rfl, by decide +kernel, by decide +kernel⟩
theorem ok_Disk_ask_flush (T : Tx K mg) (pf : PF K) : ∃ fd, FunD K "ask_flush" "Disk.ask_flush" (defArgs s_Disk_ask_flush) (defBody s_Disk_ask_flush) (defScope s_Disk_ask_flush) [] [] (He.fAd K ("Disk", some "ask_flush")) fd ∧ FnOk P w K mg base CX0 3 (He.fAd K ("Disk", some "ask_flush")) fd ["self"] (sp_Disk_ask_flush K) := by
  obtain ⟨fd, F⟩ := T.def_ 12 (d := d_Disk_ask_flush) rfl
  refine ⟨fd, F, F.ok sc_Disk_ask_flush len_Disk_ask_flush (fun cdv A outer s H vs Q E hr h => ⟨t_Disk_ask_flush K, PSs.nox ?_, pure_Disk_ask_flush pf h⟩)⟩
  have nd := (sc_Disk_ask_flush).nd
  exact (pss_cons (ps_expr (pe_mt0 (met_Disk_turn T pf) hr (by decide) (pv 0)))
    (pss_cons (ps_fld (pv 0) (pe_mt0 (met_Disk_shown T pf) hr (by decide) (pv 0)) rfl)
    (pss_one (ps_fld (pv 0) (pe_lst (pa_cons (pe_lst pa_nil) pa_nil)) rfl))))
theorem met_Disk_ask_flush (T : Tx K mg) (pf : PF K) : Met P w K mg base 3 (He.ga K "Disk") "ask_flush" (sp_Disk_ask_flush K) [] := by
  obtain ⟨fd, F, G⟩ := ok_Disk_ask_flush (P := P) (w := w) (base := base) T pf
  exact ⟨_, fd, _, [], T.cl_Disk, T.mt_Disk_ask_flush, G, F.bindsN fun _ _ _ _ _ _ us hl => match us, hl with | [_], _ => rfl, .nil⟩
theorem sc_Request_init : FnScope ["self", "count", "room", "number"] ["self", "count", "room", "number"] (defScope s_Request_init) := ⟨rfl, rfl, rfl, by decide +kernel, rfl, by decide +kernel, by decide +kernel⟩
theorem ok_Request_init (T : Tx K mg) (pf : PF K) : ∃ fd, FunD K "__init__" "Request.__init__" (defArgs s_Request_init) (defBody s_Request_init) (defScope s_Request_init) [] [] (He.fAd K ("Request", some "__init__")) fd ∧ FnOk P w K mg base CX0 1 (He.fAd K ("Request", some "__init__")) fd ["self", "count", "room", "number"] (sp_Request_init K) := by
  obtain ⟨fd, F⟩ := T.def_ 13 (d := d_Request_init) rfl
  refine ⟨fd, F, F.ok sc_Request_init len_Request_init (fun cdv A outer s H vs Q E hr h => ⟨t_Request_init K, PSs.nox ?_, pure_Request_init pf h⟩)⟩
  have nd := (sc_Request_init).nd
  exact (pss_cons (ps_fld (pv 0) (pv 1) rfl)
    (pss_cons (ps_fld (pv 0) (pv 2) rfl)
    (pss_cons (ps_fld (pv 0) (pv 3) rfl)
    (pss_one (ps_fld (pv 0) pe_int rfl)))))
theorem mak_Request (T : Tx K mg) (pf : PF K) : Mak P w K mg base 1 "Request" (He.ga K "Request") (sp_Request_init K) [] := by
  obtain ⟨fd, F, G⟩ := ok_Request_init (P := P) (w := w) (base := base) T pf
  exact ⟨_, fd, _, [], T.mk_Request, G, T.gl_Request, F.bindsN fun _ _ _ _ _ _ us hl => match us, hl with | [_, _, _, _], _ => rfl, .nil⟩
theorem sc_Request_is_write : FnScope ["self"] ["self"] (defScope s_Request_is_write) := ⟨rfl, rfl, rfl, by decide +kernel, rfl, by decide +kernel, by decide +kernel⟩
theorem ok_Request_is_write (T : Tx K mg) (pf : PF K) : ∃ fd, FunD K "is_write" "Request.is_write" (defArgs s_Request_is_write) (defBody s_Request_is_write) (defScope s_Request_is_write) [] [] (He.fAd K ("Request", some "is_write")) fd ∧ FnOk P w K mg base CX0 1 (He.fAd K ("Request", some "is_write")) fd ["self"] (sp_Request_is_write K) := by
  obtain ⟨fd, F⟩ := T.def_ 14 (d := d_Request_is_write) rfl
  refine ⟨fd, F, F.ok sc_Request_is_write len_Request_is_write (fun cdv A outer s H vs Q E hr h => ⟨t_Request_is_write K, PSs.nox ?_, pure_Request_is_write pf h⟩)⟩
  have nd := (sc_Request_is_write).nd
  exact (pss_one (ps_ret (pe_cmpR op_notN (pe_fld (pv 0) rfl) pe_non (nomark _))))
theorem met_Request_is_write (T : Tx K mg) (pf : PF K) : Met P w K mg base 1 (He.ga K "Request") "is_write" (sp_Request_is_write K) [] := by
  obtain ⟨fd, F, G⟩ := ok_Request_is_write (P := P) (w := w) (base := base) T pf
  exact ⟨_, fd, _, [], T.cl_Request, T.mt_Request_is_write, G, F.bindsN fun _ _ _ _ _ _ us hl => match us, hl with | [_], _ => rfl, .nil⟩
theorem sc_Queue_init : FnScope ["self", "patience"] ["self", "patience"] (defScope s_Queue_init) := ⟨rfl, rfl, rfl, by decide +kernel, rfl, by decide +kernel, by decide +kernel⟩
theorem ok_Queue_init (T : Tx K mg) (pf : PF K) : ∃ fd, FunD K "__init__" "Queue.__init__" (defArgs s_Queue_init) (defBody s_Queue_init) (defScope s_Queue_init) [] [] (He.fAd K ("Queue", some "__init__")) fd ∧ FnOk P w K mg base CX0 1 (He.fAd K ("Queue", some "__init__")) fd ["self", "patience"] (sp_Queue_init K) := by
  obtain ⟨fd, F⟩ := T.def_ 15 (d := d_Queue_init) rfl
  refine ⟨fd, F, F.ok sc_Queue_init len_Queue_init (fun cdv A outer s H vs Q E hr h => ⟨t_Queue_init K, PSs.nox ?_, pure_Queue_init pf h⟩)⟩
  have nd := (sc_Queue_init).nd
  exact (pss_cons (ps_fld (pv 0) (pv 1) rfl)
    (pss_cons (ps_fld (pv 0) (pe_lst pa_nil) rfl)
    (pss_cons (ps_fld (pv 0) pe_int rfl)
    (pss_one (ps_fld (pv 0) pe_int rfl)))))
theorem mak_Queue (T : Tx K mg) (pf : PF K) : Mak P w K mg base 1 "Queue" (He.ga K "Queue") (sp_Queue_init K) [] := by
  obtain ⟨fd, F, G⟩ := ok_Queue_init (P := P) (w := w) (base := base) T pf
  exact ⟨_, fd, _, [], T.mk_Queue, G, T.gl_Queue, F.bindsN fun _ _ _ _ _ _ us hl => match us, hl with | [_, _], _ => rfl, .nil⟩
theorem sc_Queue_put : FnScope ["self", "room", "number"] ["self", "room", "number"] (defScope s_Queue_put) := ⟨rfl, rfl, rfl, by decide +kernel, rfl, by decide +kernel, by decide +kernel⟩
theorem ok_Queue_put (T : Tx K mg) (pf : PF K) : ∃ fd, FunD K "put" "Queue.put" (defArgs s_Queue_put) (defBody s_Queue_put) (defScope s_Queue_put) [] [] (He.fAd K ("Queue", some "put")) fd ∧ FnOk P w K mg base CX0 3 (He.fAd K ("Queue", some "put")) fd ["self", "room", "number"] (sp_Queue_put K) := by
  obtain ⟨fd, F⟩ := T.def_ 16 (d := d_Queue_put) rfl
  refine ⟨fd, F, F.ok sc_Queue_put len_Queue_put (fun cdv A outer s H vs Q E hr h => ⟨t_Queue_put K, PSs.nox ?_, pure_Queue_put pf h⟩)⟩
  have nd := (sc_Queue_put).nd
  exact (pss_cons (ps_expr (pe_bm PySem.F.plainAttrs_list PySem.F.slot_list_append PySem.F.type_list_append mt_append (pe_fld (pv 0) rfl) (pa_cons (pe_mk (mak_Request T pf) hr (by decide) rfl (pa_cons (pe_fld (pv 0) rfl) (pa_cons (pv 1) (pa_cons (pv 2) pa_nil)))) pa_nil)))
    (pss_one (ps_fldaug (pv 0) pe_int in_add)))
theorem met_Queue_put (T : Tx K mg) (pf : PF K) : Met P w K mg base 3 (He.ga K "Queue") "put" (sp_Queue_put K) [] := by
  obtain ⟨fd, F, G⟩ := ok_Queue_put (P := P) (w := w) (base := base) T pf
  exact ⟨_, fd, _, [], T.cl_Queue, T.mt_Queue_put, G, F.bindsN fun _ _ _ _ _ _ us hl => match us, hl with | [_, _, _], _ => rfl, .nil⟩
theorem sc_Queue_newest : FnScope ["self", "room", "found", "request"] ["self", "room"] (defScope s_Queue_newest) := ⟨rfl, rfl, rfl, by decide +kernel, rfl, by decide +kernel, by decide +kernel⟩
theorem ok_Queue_newest (T : Tx K mg) (pf : PF K) : ∃ fd, FunD K "newest" "Queue.newest" (defArgs s_Queue_newest) (defBody s_Queue_newest) (defScope s_Queue_newest) [] [] (He.fAd K ("Queue", some "newest")) fd ∧ FnOk P w K mg base CX0 1 (He.fAd K ("Queue", some "newest")) fd ["self", "room"] (sp_Queue_newest K) := by
  obtain ⟨fd, F⟩ := T.def_ 17 (d := d_Queue_newest) rfl
  refine ⟨fd, F, F.ok sc_Queue_newest len_Queue_newest (fun cdv A outer s H vs Q E hr h => ⟨t_Queue_newest K, PSs.nox ?_, pure_Queue_newest pf h⟩)⟩
  have nd := (sc_Queue_newest).nd
  exact (pss_cons (ps_setLc (i := 2) (own := [("request", 3)]) rfl nd rfl rfl (sw_true rfl rfl rfl (by decide +kernel)) (pi_list (pe_fld (pv 0) rfl)) (blkOk_by (N := ["self", "room", "found", "request"]) (sc := defScope s_Queue_newest) (by decide +kernel)) (fun _ _ _ _ _ => (pg_name (i := 3) nd rfl (by first | exact Or.inl rfl | exact Or.inr rfl))) (fun _ _ _ _ _ => (pts_one (pt_cmpR op_eq (pe_fld (pv 3) rfl) (pv 1) (nomark _)))) (fun _ _ _ _ _ => (pv 3)))
    (pss_one (ps_ret (pe_ifExp (pt_cmpR (op_neE hr.units) (pv 2) (pe_lst pa_nil) (nomark _)) (pe_ix ix_list (pv 2) (pe_un un_neg pe_int) (fun _ _ => rfl)) pe_non))))
theorem met_Queue_newest (T : Tx K mg) (pf : PF K) : Met P w K mg base 1 (He.ga K "Queue") "newest" (sp_Queue_newest K) [] := by
  obtain ⟨fd, F, G⟩ := ok_Queue_newest (P := P) (w := w) (base := base) T pf
  exact ⟨_, fd, _, [], T.cl_Queue, T.mt_Queue_newest, G, F.bindsN fun _ _ _ _ _ _ us hl => match us, hl with | [_, _], _ => rfl, .nil⟩
theorem sc_Queue_free : FnScope ["self", "found", "request"] ["self"] (defScope s_Queue_free) := ⟨rfl, rfl, rfl, by decide +kernel, rfl, by decide +kernel, by decide +kernel⟩
theorem ok_Queue_free (T : Tx K mg) (pf : PF K) : ∃ fd, FunD K "free" "Queue.free" (defArgs s_Queue_free) (defBody s_Queue_free) (defScope s_Queue_free) [] [] (He.fAd K ("Queue", some "free")) fd ∧ FnOk P w K mg base CX0 2 (He.fAd K ("Queue", some "free")) fd ["self"] (sp_Queue_free K) := by
  obtain ⟨fd, F⟩ := T.def_ 18 (d := d_Queue_free) rfl
  refine ⟨fd, F, F.ok sc_Queue_free len_Queue_free (fun cdv A outer s H vs Q E hr h => ⟨t_Queue_free K, PSs.nox ?_, pure_Queue_free pf h⟩)⟩
  have nd := (sc_Queue_free).nd
  exact (pss_cons (ps_set (i := 1) nd rfl (by first | exact Or.inl rfl | exact Or.inr rfl) (pe_lst pa_nil))
    (pss_cons (ps_for PassesOwn.never rfl (pi_list (pe_fld (pv 0) rfl)) (pg_name (i := 2) nd rfl (by first | exact Or.inl rfl | exact Or.inr rfl)) (pss_cons (ps_if (pt_not (pt_val (pe_mt0 (met_Request_is_write T pf) hr (by decide) (pv 2)))) (pss_one (ps_ret (pv 1))) pss_nil)
    (pss_one (ps_expr (pe_bm PySem.F.plainAttrs_list PySem.F.slot_list_append PySem.F.type_list_append mt_append (pv 1) (pa_cons (pv 2) pa_nil))))))
    (pss_one (ps_ret (pv 1)))))
theorem met_Queue_free (T : Tx K mg) (pf : PF K) : Met P w K mg base 2 (He.ga K "Queue") "free" (sp_Queue_free K) [] := by
  obtain ⟨fd, F, G⟩ := ok_Queue_free (P := P) (w := w) (base := base) T pf
  exact ⟨_, fd, _, [], T.cl_Queue, T.mt_Queue_free, G, F.bindsN fun _ _ _ _ _ _ us hl => match us, hl with | [_], _ => rfl, .nil⟩
theorem sc_Queue_by_arm : FnScope ["self", "request"] ["self", "request"] (defScope s_Queue_by_arm) := ⟨rfl, rfl, rfl, by decide +kernel, rfl, by decide +kernel, by decide +kernel⟩
theorem ok_Queue_by_arm (T : Tx K mg) (pf : PF K) : ∃ fd, FunD K "by_arm" "Queue.by_arm" (defArgs s_Queue_by_arm) (defBody s_Queue_by_arm) (defScope s_Queue_by_arm) [] [] (He.fAd K ("Queue", some "by_arm")) fd ∧ FnOk P w K mg base CX0 1 (He.fAd K ("Queue", some "by_arm")) fd ["self", "request"] (sp_Queue_by_arm K) := by
  obtain ⟨fd, F⟩ := T.def_ 19 (d := d_Queue_by_arm) rfl
  refine ⟨fd, F, F.ok sc_Queue_by_arm len_Queue_by_arm (fun cdv A outer s H vs Q E hr h => ⟨t_Queue_by_arm K, PSs.nox ?_, pure_Queue_by_arm pf h⟩)⟩
  have nd := (sc_Queue_by_arm).nd
  exact (pss_one (ps_ret (pe_tup (pa_cons (pe_cmpR op_lt (pe_fld (pv 1) rfl) (pe_fld (pv 0) rfl) (nomark _)) (pa_cons (pe_fld (pv 1) rfl) (pa_cons (pe_fld (pv 1) rfl) pa_nil))))))
theorem met_Queue_by_arm (T : Tx K mg) (pf : PF K) : Met P w K mg base 1 (He.ga K "Queue") "by_arm" (sp_Queue_by_arm K) [] := by
  obtain ⟨fd, F, G⟩ := ok_Queue_by_arm (P := P) (w := w) (base := base) T pf
  exact ⟨_, fd, _, [], T.cl_Queue, T.mt_Queue_by_arm, G, F.bindsN fun _ _ _ _ _ _ us hl => match us, hl with | [_, _], _ => rfl, .nil⟩
theorem mk_Queue_by_arm {X : Cx} {j : Nat} (hc : X.calm = true) (T : Tx X.K X.mg) (pf : PF X.K) (hr : Room j X.A) (hj : 2 ≤ j) : CallRK X (.builtin "min") [Str.ofString "key"] (rMinKey X.K (He.fAd X.K ("Queue", some "by_arm")) (sp_Queue_by_arm X.K)) := by
  obtain ⟨fd, F, G⟩ := ok_Queue_by_arm (P := X.prog) (w := X.w) (base := X.base) T pf
  exact call_minKey hc G (hr.mono hj) (F.bindsN fun _ _ _ _ _ _ us hl => match us, hl with | [_, _], _ => rfl)
theorem sc_Queue_choice : FnScope ["self", "first", "rest", "writes"] ["self"] (defScope s_Queue_choice) := ⟨rfl, rfl, rfl, by decide +kernel, rfl, by decide +kernel, by decide +kernel⟩
theorem ok_Queue_choice (T : Tx K mg) (pf : PF K) : ∃ fd, FunD K "choice" "Queue.choice" (defArgs s_Queue_choice) (defBody s_Queue_choice) (defScope s_Queue_choice) [] [] (He.fAd K ("Queue", some "choice")) fd ∧ FnOk P w K mg base CX0 3 (He.fAd K ("Queue", some "choice")) fd ["self"] (sp_Queue_choice K) := by
  obtain ⟨fd, F⟩ := T.def_ 20 (d := d_Queue_choice) rfl
  refine ⟨fd, F, F.ok sc_Queue_choice len_Queue_choice (fun cdv A outer s H vs Q E hr h => ⟨t_Queue_choice K, PSs.nox ?_, pure_Queue_choice pf h⟩)⟩
  have nd := (sc_Queue_choice).nd
  exact (pss_cons (ps_asg (pe_fld (pv 0) rfl) (pg_star rfl (pgs_cons (pg_name (i := 1) nd rfl (by first | exact Or.inl rfl | exact Or.inr rfl)) (pgs_star (pg_name (i := 2) nd rfl (by first | exact Or.inl rfl | exact Or.inr rfl)) pgs_nil))))
    (pss_cons (ps_set (i := 3) nd rfl (by first | exact Or.inl rfl | exact Or.inr rfl) (pe_mt0 (met_Queue_free T pf) hr (by decide) (pv 0)))
    (pss_cons (ps_if (PW.pt (pw_or (pt_cmpR op_ge (pe_fld (pv 1) rfl) (pe_fld (pv 0) rfl) (nomark _)) (pw_or1 (pt_cmpR (op_eqE hr.units) (pv 3) (pe_lst pa_nil) (nomark _))))) (pss_one (ps_ret (pv 1))) pss_nil)
    (pss_one (ps_ret (pe_callBK (mk_Queue_by_arm rfl T pf hr (by decide)) rfl T.fr_min boot_min (pa_cons (pv 3) pa_nil) (pk_cons (pe_bnd T.cl_Queue T.bm_Queue_by_arm (pv 0)) pk_nil)))))))
theorem met_Queue_choice (T : Tx K mg) (pf : PF K) : Met P w K mg base 3 (He.ga K "Queue") "choice" (sp_Queue_choice K) [] := by
  obtain ⟨fd, F, G⟩ := ok_Queue_choice (P := P) (w := w) (base := base) T pf
  exact ⟨_, fd, _, [], T.cl_Queue, T.mt_Queue_choice, G, F.bindsN fun _ _ _ _ _ _ us hl => match us, hl with | [_], _ => rfl, .nil⟩
theorem sc_Queue_served : FnScope ["self", "request", "other"] ["self", "request"] (defScope s_Queue_served) := ⟨rfl, rfl, rfl, by decide +kernel, rfl, by decide +kernel, by decide +kernel⟩
theorem ok_Queue_served (T : Tx K mg) (pf : PF K) : ∃ fd, FunD K "served" "Queue.served" (defArgs s_Queue_served) (defBody s_Queue_served) (defScope s_Queue_served) [] [] (He.fAd K ("Queue", some "served")) fd ∧ FnOk P w K mg base CX0 2 (He.fAd K ("Queue", some "served")) fd ["self", "request"] (sp_Queue_served K) := by
  obtain ⟨fd, F⟩ := T.def_ 21 (d := d_Queue_served) rfl
  refine ⟨fd, F, F.ok sc_Queue_served len_Queue_served (fun cdv A outer s H vs Q E hr h => ⟨t_Queue_served K, PSs.nox ?_, pure_Queue_served pf h⟩)⟩
  have nd := (sc_Queue_served).nd
  exact (pss_cons (ps_fld (pv 0) (pe_lc (own := [("other", 2)]) rfl nd (pi_list (pe_fld (pv 0) rfl)) (blkOk_by (N := ["self", "request", "other"]) (sc := defScope s_Queue_served) (by decide +kernel)) (fun _ _ _ _ _ => (pg_name (i := 2) nd rfl (by first | exact Or.inl rfl | exact Or.inr rfl))) (fun _ _ _ _ _ => (pts_one (pt_cmpR op_ne (pe_fld (pv 2) rfl) (pe_fld (pv 1) rfl) (nomark _)))) (fun _ _ _ _ _ => (pv 2))) rfl)
    (pss_cons (ps_for PassesOwn.never rfl (pi_list (pe_fld (pv 0) rfl)) (pg_name (i := 2) nd rfl (by first | exact Or.inl rfl | exact Or.inr rfl)) (pss_one (ps_fldaug (pv 2) pe_int in_add)))
    (pss_one (ps_if (pt_val (pe_mt0 (met_Request_is_write T pf) hr (by decide) (pv 1))) (pss_one (ps_fld (pv 0) (pe_fld (pv 1) rfl) rfl)) pss_nil))))
theorem met_Queue_served (T : Tx K mg) (pf : PF K) : Met P w K mg base 2 (He.ga K "Queue") "served" (sp_Queue_served K) [] := by
  obtain ⟨fd, F, G⟩ := ok_Queue_served (P := P) (w := w) (base := base) T pf
  exact ⟨_, fd, _, [], T.cl_Queue, T.mt_Queue_served, G, F.bindsN fun _ _ _ _ _ _ us hl => match us, hl with | [_, _], _ => rfl, .nil⟩
theorem sc_Frame_init : FnScope ["self", "room", "number"] ["self", "room", "number"] (defScope s_Frame_init) := ⟨rfl, rfl, rfl, by decide +kernel, rfl, by decide +kernel, by decide +kernel⟩
theorem ok_Frame_init (T : Tx K mg) (pf : PF K) : ∃ fd, FunD K "__init__" "Frame.__init__" (defArgs s_Frame_init) (defBody s_Frame_init) (defScope s_Frame_init) [] [] (He.fAd K ("Frame", some "__init__")) fd ∧ FnOk P w K mg base CX0 1 (He.fAd K ("Frame", some "__init__")) fd ["self", "room", "number"] (sp_Frame_init K) := by
  obtain ⟨fd, F⟩ := T.def_ 22 (d := d_Frame_init) rfl
  refine ⟨fd, F, F.ok sc_Frame_init len_Frame_init (fun cdv A outer s H vs Q E hr h => ⟨t_Frame_init K, PSs.nox ?_, pure_Frame_init pf h⟩)⟩
  have nd := (sc_Frame_init).nd
  exact (pss_cons (ps_fld (pv 0) (pv 1) rfl)
    (pss_cons (ps_fld (pv 0) (pv 2) rfl)
    (pss_one (ps_fld (pv 0) pe_bl rfl))))
theorem mak_Frame (T : Tx K mg) (pf : PF K) : Mak P w K mg base 1 "Frame" (He.ga K "Frame") (sp_Frame_init K) [] := by
  obtain ⟨fd, F, G⟩ := ok_Frame_init (P := P) (w := w) (base := base) T pf
  exact ⟨_, fd, _, [], T.mk_Frame, G, T.gl_Frame, F.bindsN fun _ _ _ _ _ _ us hl => match us, hl with | [_, _, _], _ => rfl, .nil⟩
theorem sc_Store_init : FnScope ["self", "disk", "frames", "dirty", "patience"] ["self", "disk", "frames", "dirty", "patience"] (defScope s_Store_init) := ⟨rfl, rfl, rfl, by decide +kernel, rfl, by decide +kernel, by decide +kernel⟩
theorem ok_Store_init (T : Tx K mg) (pf : PF K) : ∃ fd, FunD K "__init__" "Store.__init__" (defArgs s_Store_init) (defBody s_Store_init) (defScope s_Store_init) [] [("frames", V.int 4), ("dirty", V.int 2), ("patience", V.int 3)] (He.fAd K ("Store", some "__init__")) fd ∧ FnOk P w K mg base CX0 3 (He.fAd K ("Store", some "__init__")) fd ["self", "disk", "frames", "dirty", "patience"] (sp_Store_init K) := by
  obtain ⟨fd, F⟩ := T.def_ 23 (d := d_Store_init) rfl
  refine ⟨fd, F, F.ok sc_Store_init len_Store_init (fun cdv A outer s H vs Q E hr h => ⟨t_Store_init K, PSs.nox ?_, pure_Store_init pf h⟩)⟩
  have nd := (sc_Store_init).nd
  exact (pss_cons (ps_if (PW.pt (pw_or (pt_not (pt_val (pe_callB call_isi rfl T.fr_isinstance boot_isinstance (pa_cons (pv 1) (pa_cons (pe_gc rfl (T.gv_Disk)) pa_nil))))) (pw_or (pt_not (pt_val (pe_c (cal_within T pf) hr (by decide) rfl (pa_cons (pv 2) (pa_cons pe_int (pa_cons (pe_gc rfl (T.gc_MOST_FRAMES)) pa_nil)))))) (pw_or1 (pt_not (pt_val (pe_c (cal_within T pf) hr (by decide) rfl (pa_cons (pv 3) (pa_cons pe_int (pa_cons (pv 2) pa_nil)))))))))) (pss_one ps_never) pss_nil)
    (pss_cons (ps_if (pt_not (pt_val (pe_c (cal_within T pf) hr (by decide) rfl (pa_cons (pv 4) (pa_cons pe_int (pa_cons (pe_gc rfl (T.gc_MOST_PATIENCE)) pa_nil)))))) (pss_one ps_never) pss_nil)
    (pss_cons (ps_fld (pv 0) (pv 1) rfl)
    (pss_cons (ps_fld (pv 0) (pv 2) rfl)
    (pss_cons (ps_fld (pv 0) (pv 3) rfl)
    (pss_cons (ps_fld (pv 0) (pe_lst pa_nil) rfl)
    (pss_one (ps_fld (pv 0) (pe_mk (mak_Queue T pf) hr (by decide) rfl (pa_cons (pv 4) pa_nil)) rfl))))))))
theorem mak_Store (T : Tx K mg) (pf : PF K) : Mak P w K mg base 3 "Store" (He.ga K "Store") (sp_Store_init K) (dv_Store_init K) := by
  obtain ⟨fd, F, G⟩ := ok_Store_init (P := P) (w := w) (base := base) T pf
  obtain ⟨ds, rd, bd⟩ := F.binds0 (ps := ["self", "disk", "frames", "dirty", "patience"]) 2 (by decide) rfl (fun D doc pm an cdv ct us ks h1 h2 => match us, h1, ks, h2 with | [_, _], _, [_, _, _], _ => ⟨_, _, _, _, _, _, rfl, rfl, ⟨_, _, _, _, _, _, rfl, rfl, ⟨_, _, _, _, _, _, rfl, rfl, rfl⟩⟩⟩)
  exact ⟨_, fd, _, ds, T.mk_Store, G, T.gl_Store, bd, rd⟩
theorem km_Store_frames_dirty_patience (T : Tx K mg) (pf : PF K) : KMak P w K mg base 3 "Store" (He.ga K "Store") 1 [Str.ofString "frames", Str.ofString "dirty", Str.ofString "patience"] (sp_Store_init K) kg_Store_frames_dirty_patience := by
  obtain ⟨fd, F, G⟩ := ok_Store_init (P := P) (w := w) (base := base) T pf
  obtain ⟨mv, kb⟩ := F.kbinds0 (ps := ["self", "disk", "frames", "dirty", "patience"]) 2 [Str.ofString "frames", Str.ofString "dirty", Str.ofString "patience"] [] (fun us mv ws => (us) ++ ((ws.drop 0).take 1) ++ ((ws.drop 1).take 1) ++ ((ws.drop 2).take 1)) (by decide) (by decide) (fun r1 r2 r3 => (((r1.append ((r3.drop 0).take 1)).append ((r3.drop 1).take 1)).append ((r3.drop 2).take 1))) (fun D doc pm an cdv ct us mv ws h1 h2 h3 => match us, h1, mv, h2, ws, h3 with | [_, _], _, [], _, [_, _, _], _ => rfl)
  exact ⟨_, fd, _, _, T.mk_Store, G, T.gl_Store, kb⟩
theorem km_Store_patience_dirty_frames (T : Tx K mg) (pf : PF K) : KMak P w K mg base 3 "Store" (He.ga K "Store") 1 [Str.ofString "patience", Str.ofString "dirty", Str.ofString "frames"] (sp_Store_init K) kg_Store_patience_dirty_frames := by
  obtain ⟨fd, F, G⟩ := ok_Store_init (P := P) (w := w) (base := base) T pf
  obtain ⟨mv, kb⟩ := F.kbinds0 (ps := ["self", "disk", "frames", "dirty", "patience"]) 2 [Str.ofString "patience", Str.ofString "dirty", Str.ofString "frames"] [] (fun us mv ws => (us) ++ ((ws.drop 2).take 1) ++ ((ws.drop 1).take 1) ++ ((ws.drop 0).take 1)) (by decide) (by decide) (fun r1 r2 r3 => (((r1.append ((r3.drop 2).take 1)).append ((r3.drop 1).take 1)).append ((r3.drop 0).take 1))) (fun D doc pm an cdv ct us mv ws h1 h2 h3 => match us, h1, mv, h2, ws, h3 with | [_, _], _, [], _, [_, _, _], _ => rfl)
  exact ⟨_, fd, _, _, T.mk_Store, G, T.gl_Store, kb⟩
theorem sc_Store_check_room : FnScope ["self", "room"] ["self", "room"] (defScope s_Store_check_room) := ⟨rfl, rfl, rfl, by decide +kernel, rfl, by decide +kernel, by decide +kernel⟩
theorem ok_Store_check_room (T : Tx K mg) (pf : PF K) : ∃ fd, FunD K "check_room" "Store.check_room" (defArgs s_Store_check_room) (defBody s_Store_check_room) (defScope s_Store_check_room) [] [] (He.fAd K ("Store", some "check_room")) fd ∧ FnOk P w K mg base CX0 3 (He.fAd K ("Store", some "check_room")) fd ["self", "room"] (sp_Store_check_room K) := by
  obtain ⟨fd, F⟩ := T.def_ 24 (d := d_Store_check_room) rfl
  refine ⟨fd, F, F.ok sc_Store_check_room len_Store_check_room (fun cdv A outer s H vs Q E hr h => ⟨t_Store_check_room K, PSs.nox ?_, pure_Store_check_room pf h⟩)⟩
  have nd := (sc_Store_check_room).nd
  exact (pss_one (ps_if (pt_not (pt_val (pe_c (cal_within T pf) hr (by decide) rfl (pa_cons (pv 1) (pa_cons pe_int (pa_cons (pe_op op_sub (pe_mt0 (met_Disk_rooms T pf) hr (by decide) (pe_fld (pv 0) rfl)) pe_int) pa_nil)))))) (pss_one ps_never) pss_nil))
theorem met_Store_check_room (T : Tx K mg) (pf : PF K) : Met P w K mg base 3 (He.ga K "Store") "check_room" (sp_Store_check_room K) [] := by
  obtain ⟨fd, F, G⟩ := ok_Store_check_room (P := P) (w := w) (base := base) T pf
  exact ⟨_, fd, _, [], T.cl_Store, T.mt_Store_check_room, G, F.bindsN fun _ _ _ _ _ _ us hl => match us, hl with | [_, _], _ => rfl, .nil⟩
theorem sc_Store_clean : FnScope ["self", "frame"] ["self", "frame"] (defScope s_Store_clean) := ⟨rfl, rfl, rfl, by decide +kernel, rfl, by decide +kernel, by decide +kernel⟩
theorem ok_Store_clean (T : Tx K mg) (pf : PF K) : ∃ fd, FunD K "clean" "Store.clean" (defArgs s_Store_clean) (defBody s_Store_clean) (defScope s_Store_clean) [] [] (He.fAd K ("Store", some "clean")) fd ∧ FnOk P w K mg base CX0 4 (He.fAd K ("Store", some "clean")) fd ["self", "frame"] (sp_Store_clean K) := by
  obtain ⟨fd, F⟩ := T.def_ 25 (d := d_Store_clean) rfl
  refine ⟨fd, F, F.ok sc_Store_clean len_Store_clean (fun cdv A outer s H vs Q E hr h => ⟨t_Store_clean K, PSs.nox ?_, pure_Store_clean pf h⟩)⟩
  have nd := (sc_Store_clean).nd
  exact (pss_cons (ps_expr (pe_mt (met_Queue_put T pf) hr (by decide) (pe_fld (pv 0) rfl) (pa_cons (pe_fld (pv 1) rfl) (pa_cons (pe_fld (pv 1) rfl) pa_nil))))
    (pss_one (ps_fld (pv 1) pe_bl rfl)))
theorem met_Store_clean (T : Tx K mg) (pf : PF K) : Met P w K mg base 4 (He.ga K "Store") "clean" (sp_Store_clean K) [] := by
  obtain ⟨fd, F, G⟩ := ok_Store_clean (P := P) (w := w) (base := base) T pf
  exact ⟨_, fd, _, [], T.cl_Store, T.mt_Store_clean, G, F.bindsN fun _ _ _ _ _ _ us hl => match us, hl with | [_, _], _ => rfl, .nil⟩
theorem sc_Store_leave : FnScope ["self", "clean", "frame"] ["self"] (defScope s_Store_leave) := ⟨rfl, rfl, rfl, by decide +kernel, rfl, by decide +kernel, by decide +kernel⟩
theorem ok_Store_leave (T : Tx K mg) (pf : PF K) : ∃ fd, FunD K "leave" "Store.leave" (defArgs s_Store_leave) (defBody s_Store_leave) (defScope s_Store_leave) [] [] (He.fAd K ("Store", some "leave")) fd ∧ FnOk P w K mg base CX0 5 (He.fAd K ("Store", some "leave")) fd ["self"] (sp_Store_leave K) := by
  obtain ⟨fd, F⟩ := T.def_ 26 (d := d_Store_leave) rfl
  refine ⟨fd, F, F.ok sc_Store_leave len_Store_leave (fun cdv A outer s H vs Q E hr h => ⟨t_Store_leave K, PSs.nox ?_, pure_Store_leave pf h⟩)⟩
  have nd := (sc_Store_leave).nd
  exact (pss_cons (ps_set (i := 1) nd rfl (by first | exact Or.inl rfl | exact Or.inr rfl) (pe_lc (own := [("frame", 2)]) rfl nd (pi_list (pe_fld (pv 0) rfl)) (blkOk_by (N := ["self", "clean", "frame"]) (sc := defScope s_Store_leave) (by decide +kernel)) (fun _ _ _ _ _ => (pg_name (i := 2) nd rfl (by first | exact Or.inl rfl | exact Or.inr rfl))) (fun _ _ _ _ _ => (pts_one (pt_not (pt_val (pe_fld (pv 2) rfl))))) (fun _ _ _ _ _ => (pv 2))))
    (pss_cons (ps_if (pt_cmpR (op_eqE hr.units) (pv 1) (pe_lst pa_nil) (nomark _)) (pss_cons (ps_expr (pe_mt (met_Store_clean T pf) hr (by decide) (pv 0) (pa_cons (pe_ix ix_list (pe_fld (pv 0) rfl) pe_int (fun _ _ => rfl)) pa_nil)))
    (pss_one (ps_set (i := 1) nd rfl (by first | exact Or.inl rfl | exact Or.inr rfl) (pe_fld (pv 0) rfl)))) pss_nil)
    (pss_one (ps_fld (pv 0) (pe_lc (own := [("frame", 2)]) rfl nd (pi_list (pe_fld (pv 0) rfl)) (blkOk_by (N := ["self", "clean", "frame"]) (sc := defScope s_Store_leave) (by decide +kernel)) (fun _ _ _ _ _ => (pg_name (i := 2) nd rfl (by first | exact Or.inl rfl | exact Or.inr rfl))) (fun _ _ _ _ _ => (pts_one (pt_cmpR op_ne (pe_fld (pv 2) rfl) (pe_fld (pe_ix ix_list (pv 1) pe_int (fun _ _ => rfl)) rfl) (nomark _)))) (fun _ _ _ _ _ => (pv 2))) rfl))))
theorem met_Store_leave (T : Tx K mg) (pf : PF K) : Met P w K mg base 5 (He.ga K "Store") "leave" (sp_Store_leave K) [] := by
  obtain ⟨fd, F, G⟩ := ok_Store_leave (P := P) (w := w) (base := base) T pf
  exact ⟨_, fd, _, [], T.cl_Store, T.mt_Store_leave, G, F.bindsN fun _ _ _ _ _ _ us hl => match us, hl with | [_], _ => rfl, .nil⟩
theorem sc_Store_use : FnScope ["self", "room", "found", "request", "frame"] ["self", "room"] (defScope s_Store_use) := ⟨rfl, rfl, rfl, by decide +kernel, rfl, by decide +kernel, by decide +kernel⟩
theorem ok_Store_use (T : Tx K mg) (pf : PF K) : ∃ fd, FunD K "use" "Store.use" (defArgs s_Store_use) (defBody s_Store_use) (defScope s_Store_use) [] [] (He.fAd K ("Store", some "use")) fd ∧ FnOk P w K mg base CX0 6 (He.fAd K ("Store", some "use")) fd ["self", "room"] (sp_Store_use K) := by
  obtain ⟨fd, F⟩ := T.def_ 27 (d := d_Store_use) rfl
  refine ⟨fd, F, F.ok sc_Store_use len_Store_use (fun cdv A outer s H vs Q E hr h => ⟨t_Store_use K, PSs.nox ?_, pure_Store_use pf h⟩)⟩
  have nd := (sc_Store_use).nd
  exact (pss_cons (ps_setLc (i := 2) (own := [("frame", 4)]) rfl nd rfl rfl (sw_true rfl rfl rfl (by decide +kernel)) (pi_list (pe_fld (pv 0) rfl)) (blkOk_by (N := ["self", "room", "found", "request", "frame"]) (sc := defScope s_Store_use) (by decide +kernel)) (fun _ _ _ _ _ => (pg_name (i := 4) nd rfl (by first | exact Or.inl rfl | exact Or.inr rfl))) (fun _ _ _ _ _ => (pts_one (pt_cmpR op_eq (pe_fld (pv 4) rfl) (pv 1) (nomark _)))) (fun _ _ _ _ _ => (pv 4)))
    (pss_cons (ps_if (pt_cmpR (op_eqE hr.units) (pv 2) (pe_lst pa_nil) (nomark _)) (pss_cons (ps_if (pt_cmpR op_eq (pe_callB call_len_seq rfl T.fr_len boot_len (pa_cons (pe_fld (pv 0) rfl) pa_nil)) (pe_fld (pv 0) rfl) (nomark _)) (pss_one (ps_expr (pe_mt0 (met_Store_leave T pf) hr (by decide) (pv 0)))) pss_nil)
    (pss_cons (ps_set (i := 3) nd rfl (by first | exact Or.inl rfl | exact Or.inr rfl) (pe_mt (met_Queue_newest T pf) hr (by decide) (pe_fld (pv 0) rfl) (pa_cons (pv 1) pa_nil)))
    (pss_one (ps_set (i := 2) nd rfl (by first | exact Or.inl rfl | exact Or.inr rfl) (pe_lst (pa_cons (pe_mk (mak_Frame T pf) hr (by decide) rfl (pa_cons (pv 1) (pa_cons (pe_ifExp (pt_cmpR op_isN (pv 3) pe_non (nomark _)) (pe_mt (met_Disk_ask_read T pf) hr (by decide) (pe_fld (pv 0) rfl) (pa_cons (pv 1) pa_nil)) (pe_fld (pv 3) rfl)) pa_nil))) pa_nil)))))) pss_nil)
    (pss_cons (ps_fld (pv 0) (pe_op op_cat (pe_lc (own := [("frame", 4)]) rfl nd (pi_list (pe_fld (pv 0) rfl)) (blkOk_by (N := ["self", "room", "found", "request", "frame"]) (sc := defScope s_Store_use) (by decide +kernel)) (fun _ _ _ _ _ => (pg_name (i := 4) nd rfl (by first | exact Or.inl rfl | exact Or.inr rfl))) (fun _ _ _ _ _ => (pts_one (pt_cmpR op_ne (pe_fld (pv 4) rfl) (pv 1) (nomark _)))) (fun _ _ _ _ _ => (pv 4))) (pv 2)) rfl)
    (pss_one (ps_ret (pe_ix ix_list (pv 2) pe_int (fun _ _ => rfl)))))))
theorem met_Store_use (T : Tx K mg) (pf : PF K) : Met P w K mg base 6 (He.ga K "Store") "use" (sp_Store_use K) [] := by
  obtain ⟨fd, F, G⟩ := ok_Store_use (P := P) (w := w) (base := base) T pf
  exact ⟨_, fd, _, [], T.cl_Store, T.mt_Store_use, G, F.bindsN fun _ _ _ _ _ _ us hl => match us, hl with | [_, _], _ => rfl, .nil⟩
theorem sc_Store_read : FnScope ["self", "room"] ["self", "room"] (defScope s_Store_read) := ⟨rfl, rfl, rfl, by decide +kernel, rfl, by decide +kernel, by decide +kernel⟩
theorem ok_Store_read (T : Tx K mg) (pf : PF K) : ∃ fd, FunD K "read" "Store.read" (defArgs s_Store_read) (defBody s_Store_read) (defScope s_Store_read) [] [] (He.fAd K ("Store", some "read")) fd ∧ FnOk P w K mg base CX0 7 (He.fAd K ("Store", some "read")) fd ["self", "room"] (sp_Store_read K) := by
  obtain ⟨fd, F⟩ := T.def_ 28 (d := d_Store_read) rfl
  refine ⟨fd, F, F.ok sc_Store_read len_Store_read (fun cdv A outer s H vs Q E hr h => ⟨t_Store_read K, PSs.nox ?_, pure_Store_read pf h⟩)⟩
  have nd := (sc_Store_read).nd
  exact (pss_cons (ps_expr (pe_mt (met_Store_check_room T pf) hr (by decide) (pv 0) (pa_cons (pv 1) pa_nil)))
    (pss_one (ps_ret (pe_fld (pe_mt (met_Store_use T pf) hr (by decide) (pv 0) (pa_cons (pv 1) pa_nil)) rfl))))
theorem met_Store_read (T : Tx K mg) (pf : PF K) : Met P w K mg base 7 (He.ga K "Store") "read" (sp_Store_read K) [] := by
  obtain ⟨fd, F, G⟩ := ok_Store_read (P := P) (w := w) (base := base) T pf
  exact ⟨_, fd, _, [], T.cl_Store, T.mt_Store_read, G, F.bindsN fun _ _ _ _ _ _ us hl => match us, hl with | [_, _], _ => rfl, .nil⟩
theorem sc_Store_write : FnScope ["self", "room", "number", "frame", "dirty", "other"] ["self", "room", "number"] (defScope s_Store_write) := ⟨rfl, rfl, rfl, by decide +kernel, rfl, by decide +kernel, by decide +kernel⟩
theorem ok_Store_write (T : Tx K mg) (pf : PF K) : ∃ fd, FunD K "write" "Store.write" (defArgs s_Store_write) (defBody s_Store_write) (defScope s_Store_write) [] [] (He.fAd K ("Store", some "write")) fd ∧ FnOk P w K mg base CX0 7 (He.fAd K ("Store", some "write")) fd ["self", "room", "number"] (sp_Store_write K) := by
  obtain ⟨fd, F⟩ := T.def_ 29 (d := d_Store_write) rfl
  refine ⟨fd, F, F.ok sc_Store_write len_Store_write (fun cdv A outer s H vs Q E hr h => ⟨t_Store_write K, PSs.nox ?_, pure_Store_write pf h⟩)⟩
  have nd := (sc_Store_write).nd
  exact (pss_cons (ps_expr (pe_mt (met_Store_check_room T pf) hr (by decide) (pv 0) (pa_cons (pv 1) pa_nil)))
    (pss_cons (ps_if (pt_not (pt_val (pe_c (cal_is_whole T pf) hr (by decide) rfl (pa_cons (pv 2) pa_nil)))) (pss_one ps_never) pss_nil)
    (pss_cons (ps_set (i := 3) nd rfl (by first | exact Or.inl rfl | exact Or.inr rfl) (pe_mt (met_Store_use T pf) hr (by decide) (pv 0) (pa_cons (pv 1) pa_nil)))
    (pss_cons (ps_fld (pv 3) (pv 2) rfl)
    (pss_cons (ps_fld (pv 3) pe_bl rfl)
    (pss_cons (ps_setLc (i := 4) (own := [("other", 5)]) rfl nd rfl rfl (sw_true rfl rfl rfl (by decide +kernel)) (pi_list (pe_fld (pv 0) rfl)) (blkOk_by (N := ["self", "room", "number", "frame", "dirty", "other"]) (sc := defScope s_Store_write) (by decide +kernel)) (fun _ _ _ _ _ => (pg_name (i := 5) nd rfl (by first | exact Or.inl rfl | exact Or.inr rfl))) (fun _ _ _ _ _ => (pts_one (pt_val (pe_fld (pv 5) rfl)))) (fun _ _ _ _ _ => (pv 5)))
    (pss_one (ps_if (pt_cmpR op_gt (pe_callB call_len_seq rfl T.fr_len boot_len (pa_cons (pv 4) pa_nil)) (pe_fld (pv 0) rfl) (nomark _)) (pss_one (ps_expr (pe_mt (met_Store_clean T pf) hr (by decide) (pv 0) (pa_cons (pe_ix ix_list (pv 4) pe_int (fun _ _ => rfl)) pa_nil)))) pss_nil))))))))
theorem met_Store_write (T : Tx K mg) (pf : PF K) : Met P w K mg base 7 (He.ga K "Store") "write" (sp_Store_write K) [] := by
  obtain ⟨fd, F, G⟩ := ok_Store_write (P := P) (w := w) (base := base) T pf
  exact ⟨_, fd, _, [], T.cl_Store, T.mt_Store_write, G, F.bindsN fun _ _ _ _ _ _ us hl => match us, hl with | [_, _, _], _ => rfl, .nil⟩
theorem sc_Store_order : FnScope ["self", "frame"] ["self"] (defScope s_Store_order) := ⟨rfl, rfl, rfl, by decide +kernel, rfl, by decide +kernel, by decide +kernel⟩
theorem ok_Store_order (T : Tx K mg) (pf : PF K) : ∃ fd, FunD K "order" "Store.order" (defArgs s_Store_order) (defBody s_Store_order) (defScope s_Store_order) [] [] (He.fAd K ("Store", some "order")) fd ∧ FnOk P w K mg base CX0 5 (He.fAd K ("Store", some "order")) fd ["self"] (sp_Store_order K) := by
  obtain ⟨fd, F⟩ := T.def_ 30 (d := d_Store_order) rfl
  refine ⟨fd, F, F.ok sc_Store_order len_Store_order (fun cdv A outer s H vs Q E hr h => ⟨t_Store_order K, PSs.nox ?_, pure_Store_order pf h⟩)⟩
  have nd := (sc_Store_order).nd
  have hr3 : Room 3 _ := hr.mono (by decide)
  exact (pss_cons (ps_for PassesOwn.never rfl (pi_list (pe_callBK (sk_spot_of T hr3) rfl T.fr_sorted boot_sorted (pa_cons (pe_fld (pv 0) rfl) pa_nil) (pk_cons (pe_gc rfl (T.gv_spot_of)) pk_nil))) (pg_name (i := 1) nd rfl (by first | exact Or.inl rfl | exact Or.inr rfl)) (pss_one (ps_if (pt_val (pe_fld (pv 1) rfl)) (pss_one (ps_expr (pe_mt (met_Store_clean T pf) hr (by decide) (pv 0) (pa_cons (pv 1) pa_nil)))) pss_nil)))
    (pss_one (ps_expr (pe_mt (met_Queue_put T pf) hr (by decide) (pe_fld (pv 0) rfl) (pa_cons pe_non (pa_cons pe_non pa_nil))))))
theorem met_Store_order (T : Tx K mg) (pf : PF K) : Met P w K mg base 5 (He.ga K "Store") "order" (sp_Store_order K) [] := by
  obtain ⟨fd, F, G⟩ := ok_Store_order (P := P) (w := w) (base := base) T pf
  exact ⟨_, fd, _, [], T.cl_Store, T.mt_Store_order, G, F.bindsN fun _ _ _ _ _ _ us hl => match us, hl with | [_], _ => rfl, .nil⟩
theorem sc_Store_serve : FnScope ["self", "request"] ["self"] (defScope s_Store_serve) := ⟨rfl, rfl, rfl, by decide +kernel, rfl, by decide +kernel, by decide +kernel⟩
theorem ok_Store_serve (T : Tx K mg) (pf : PF K) : ∃ fd, FunD K "serve" "Store.serve" (defArgs s_Store_serve) (defBody s_Store_serve) (defScope s_Store_serve) [] [] (He.fAd K ("Store", some "serve")) fd ∧ FnOk P w K mg base CX0 4 (He.fAd K ("Store", some "serve")) fd ["self"] (sp_Store_serve K) := by
  obtain ⟨fd, F⟩ := T.def_ 31 (d := d_Store_serve) rfl
  refine ⟨fd, F, F.ok sc_Store_serve len_Store_serve (fun cdv A outer s H vs Q E hr h => ⟨t_Store_serve K, PSs.nox ?_, pure_Store_serve pf h⟩)⟩
  have nd := (sc_Store_serve).nd
  exact (pss_cons (ps_set (i := 1) nd rfl (by first | exact Or.inl rfl | exact Or.inr rfl) (pe_mt0 (met_Queue_choice T pf) hr (by decide) (pe_fld (pv 0) rfl)))
    (pss_cons (ps_if (pt_val (pe_mt0 (met_Request_is_write T pf) hr (by decide) (pv 1))) (pss_one (ps_expr (pe_mt (met_Disk_ask_write T pf) hr (by decide) (pe_fld (pv 0) rfl) (pa_cons (pe_fld (pv 1) rfl) (pa_cons (pe_fld (pv 1) rfl) pa_nil))))) (pss_one (ps_expr (pe_mt0 (met_Disk_ask_barrier T pf) hr (by decide) (pe_fld (pv 0) rfl)))))
    (pss_cons (ps_expr (pe_mt (met_Queue_served T pf) hr (by decide) (pe_fld (pv 0) rfl) (pa_cons (pv 1) pa_nil)))
    (pss_one (ps_ret (pe_fld (pv 1) rfl))))))
theorem met_Store_serve (T : Tx K mg) (pf : PF K) : Met P w K mg base 4 (He.ga K "Store") "serve" (sp_Store_serve K) [] := by
  obtain ⟨fd, F, G⟩ := ok_Store_serve (P := P) (w := w) (base := base) T pf
  exact ⟨_, fd, _, [], T.cl_Store, T.mt_Store_serve, G, F.bindsN fun _ _ _ _ _ _ us hl => match us, hl with | [_], _ => rfl, .nil⟩
theorem sc_Store_sync : FnScope ["self"] ["self"] (defScope s_Store_sync) := ⟨rfl, rfl, rfl, by decide +kernel, rfl, by decide +kernel, by decide +kernel⟩
theorem ok_Store_sync (T : Tx K mg) (pf : PF K) : ∃ fd, FunD K "sync" "Store.sync" (defArgs s_Store_sync) (defBody s_Store_sync) (defScope s_Store_sync) [] [] (He.fAd K ("Store", some "sync")) fd ∧ FnOk P w K mg base CX0 6 (He.fAd K ("Store", some "sync")) fd ["self"] (sp_Store_sync K) := by
  obtain ⟨fd, F⟩ := T.def_ 32 (d := d_Store_sync) rfl
  refine ⟨fd, F, F.ok sc_Store_sync len_Store_sync (fun cdv A outer s H vs Q E hr h => ⟨t_Store_sync K, PSs.nox ?_, pure_Store_sync pf h⟩)⟩
  have nd := (sc_Store_sync).nd
  exact (pss_cons (ps_expr (pe_mt0 (met_Store_order T pf) hr (by decide) (pv 0)))
    (pss_cons (ps_while PassesOwn.never (pt_cmpR (op_neE hr.units) (pe_fld (pe_fld (pv 0) rfl) rfl) (pe_lst pa_nil) (nomark _)) (pss_one (ps_expr (pe_mt0 (met_Store_serve T pf) hr (by decide) (pv 0)))))
    (pss_one (ps_expr (pe_mt0 (met_Disk_ask_flush T pf) hr (by decide) (pe_fld (pv 0) rfl))))))
theorem met_Store_sync (T : Tx K mg) (pf : PF K) : Met P w K mg base 6 (He.ga K "Store") "sync" (sp_Store_sync K) [] := by
  obtain ⟨fd, F, G⟩ := ok_Store_sync (P := P) (w := w) (base := base) T pf
  exact ⟨_, fd, _, [], T.cl_Store, T.mt_Store_sync, G, F.bindsN fun _ _ _ _ _ _ us hl => match us, hl with | [_], _ => rfl, .nil⟩
theorem sc_Store_idle : FnScope ["self", "many", "turn"] ["self", "many"] (defScope s_Store_idle) := ⟨rfl, rfl, rfl, by decide +kernel, rfl, by decide +kernel, by decide +kernel⟩
theorem ok_Store_idle (T : Tx K mg) (pf : PF K) : ∃ fd, FunD K "idle" "Store.idle" (defArgs s_Store_idle) (defBody s_Store_idle) (defScope s_Store_idle) [] [("many", V.int 1)] (He.fAd K ("Store", some "idle")) fd ∧ FnOk P w K mg base CX0 5 (He.fAd K ("Store", some "idle")) fd ["self", "many"] (sp_Store_idle K) := by
  obtain ⟨fd, F⟩ := T.def_ 33 (d := d_Store_idle) rfl
  refine ⟨fd, F, F.ok sc_Store_idle len_Store_idle (fun cdv A outer s H vs Q E hr h => ⟨t_Store_idle K, PSs.nox ?_, pure_Store_idle pf h⟩)⟩
  have nd := (sc_Store_idle).nd
  exact (pss_cons (ps_if (pt_not (pt_val (pe_c (cal_within T pf) hr (by decide) rfl (pa_cons (pv 1) (pa_cons pe_int (pa_cons (pe_gc rfl (T.gc_MOST_IDLE)) pa_nil)))))) (pss_one ps_never) pss_nil)
    (pss_one (ps_ret (pe_lc (own := [("turn", 2)]) rfl nd (pi_range1 rfl T.fr_range (pa_cons (pe_callB (call_min2 rfl) rfl T.fr_min boot_min (pa_cons (pv 1) (pa_cons (pe_callB call_len_seq rfl T.fr_len boot_len (pa_cons (pe_fld (pe_fld (pv 0) rfl) rfl) pa_nil)) pa_nil))) pa_nil)) (blkOk_by (N := ["self", "many", "turn"]) (sc := defScope s_Store_idle) (by decide +kernel)) (fun _ _ _ _ _ => (pg_name (i := 2) nd rfl (by first | exact Or.inl rfl | exact Or.inr rfl))) (fun _ _ _ _ _ => pts_nil) (fun _ _ _ _ _ => (pe_mt0 (met_Store_serve T pf) hr (by decide) (pv 0)))))))
theorem met_Store_idle (T : Tx K mg) (pf : PF K) : Met P w K mg base 5 (He.ga K "Store") "idle" (sp_Store_idle K) (dv_Store_idle K) := by
  obtain ⟨fd, F, G⟩ := ok_Store_idle (P := P) (w := w) (base := base) T pf
  obtain ⟨ds, rd, bd⟩ := F.binds0 (ps := ["self", "many"]) 1 (by decide) rfl (fun D doc pm an cdv ct us ks h1 h2 => match us, h1, ks, h2 with | [_], _, [_], _ => ⟨_, _, _, _, _, _, rfl, rfl, rfl⟩)
  exact ⟨_, fd, _, ds, T.cl_Store, T.mt_Store_idle, G, bd, rd⟩
theorem kt_Store_idle_many (T : Tx K mg) (pf : PF K) : KMet P w K mg base 5 (He.ga K "Store") "idle" [Str.ofString "many"] (sp_Store_idle K) kg_Store_idle_many := by
  obtain ⟨fd, F, G⟩ := ok_Store_idle (P := P) (w := w) (base := base) T pf
  obtain ⟨mv, kb⟩ := F.kbinds0 (ps := ["self", "many"]) 1 [Str.ofString "many"] [] (fun us mv ws => (us) ++ ((ws.drop 0).take 1)) (by decide) (by decide) (fun r1 r2 r3 => (r1.append ((r3.drop 0).take 1))) (fun D doc pm an cdv ct us mv ws h1 h2 h3 => match us, h1, mv, h2, ws, h3 with | [_], _, [], _, [_], _ => rfl)
  exact ⟨_, fd, _, _, T.cl_Store, T.mt_Store_idle, G, kb⟩
theorem sc_Store_held : FnScope ["self", "frame"] ["self"] (defScope s_Store_held) := ⟨rfl, rfl, rfl, by decide +kernel, rfl, by decide +kernel, by decide +kernel⟩
theorem ok_Store_held (T : Tx K mg) (pf : PF K) : ∃ fd, FunD K "held" "Store.held" (defArgs s_Store_held) (defBody s_Store_held) (defScope s_Store_held) [] [] (He.fAd K ("Store", some "held")) fd ∧ FnOk P w K mg base CX0 1 (He.fAd K ("Store", some "held")) fd ["self"] (sp_Store_held K) := by
  obtain ⟨fd, F⟩ := T.def_ 34 (d := d_Store_held) rfl
  refine ⟨fd, F, F.ok sc_Store_held len_Store_held (fun cdv A outer s H vs Q E hr h => ⟨t_Store_held K, PSs.nox ?_, pure_Store_held pf h⟩)⟩
  have nd := (sc_Store_held).nd
  exact (pss_one (ps_ret (pe_lc (own := [("frame", 1)]) rfl nd (pi_list (pe_fld (pv 0) rfl)) (blkOk_by (N := ["self", "frame"]) (sc := defScope s_Store_held) (by decide +kernel)) (fun _ _ _ _ _ => (pg_name (i := 1) nd rfl (by first | exact Or.inl rfl | exact Or.inr rfl))) (fun _ _ _ _ _ => pts_nil) (fun _ _ _ _ _ => (pe_tup (pa_cons (pe_fld (pv 1) rfl) (pa_cons (pe_fld (pv 1) rfl) (pa_cons (pe_fld (pv 1) rfl) pa_nil))))))))
theorem met_Store_held (T : Tx K mg) (pf : PF K) : Met P w K mg base 1 (He.ga K "Store") "held" (sp_Store_held K) [] := by
  obtain ⟨fd, F, G⟩ := ok_Store_held (P := P) (w := w) (base := base) T pf
  exact ⟨_, fd, _, [], T.cl_Store, T.mt_Store_held, G, F.bindsN fun _ _ _ _ _ _ us hl => match us, hl with | [_], _ => rfl, .nil⟩
theorem sc_Store_queue : FnScope ["self", "request"] ["self"] (defScope s_Store_queue) := ⟨rfl, rfl, rfl, by decide +kernel, rfl, by decide +kernel, by decide +kernel⟩
theorem ok_Store_queue (T : Tx K mg) (pf : PF K) : ∃ fd, FunD K "queue" "Store.queue" (defArgs s_Store_queue) (defBody s_Store_queue) (defScope s_Store_queue) [] [] (He.fAd K ("Store", some "queue")) fd ∧ FnOk P w K mg base CX0 1 (He.fAd K ("Store", some "queue")) fd ["self"] (sp_Store_queue K) := by
  obtain ⟨fd, F⟩ := T.def_ 35 (d := d_Store_queue) rfl
  refine ⟨fd, F, F.ok sc_Store_queue len_Store_queue (fun cdv A outer s H vs Q E hr h => ⟨t_Store_queue K, PSs.nox ?_, pure_Store_queue pf h⟩)⟩
  have nd := (sc_Store_queue).nd
  exact (pss_one (ps_ret (pe_lc (own := [("request", 1)]) rfl nd (pi_list (pe_fld (pe_fld (pv 0) rfl) rfl)) (blkOk_by (N := ["self", "request"]) (sc := defScope s_Store_queue) (by decide +kernel)) (fun _ _ _ _ _ => (pg_name (i := 1) nd rfl (by first | exact Or.inl rfl | exact Or.inr rfl))) (fun _ _ _ _ _ => pts_nil) (fun _ _ _ _ _ => (pe_tup (pa_cons (pe_fld (pv 1) rfl) (pa_cons (pe_fld (pv 1) rfl) (pa_cons (pe_fld (pv 1) rfl) pa_nil))))))))
theorem met_Store_queue (T : Tx K mg) (pf : PF K) : Met P w K mg base 1 (He.ga K "Store") "queue" (sp_Store_queue K) [] := by
  obtain ⟨fd, F, G⟩ := ok_Store_queue (P := P) (w := w) (base := base) T pf
  exact ⟨_, fd, _, [], T.cl_Store, T.mt_Store_queue, G, F.bindsN fun _ _ _ _ _ _ us hl => match us, hl with | [_], _ => rfl, .nil⟩
theorem sc_Store_arm : FnScope ["self"] ["self"] (defScope s_Store_arm) := ⟨rfl, rfl, rfl, by decide +kernel, rfl, by decide +kernel, by decide +kernel⟩
theorem ok_Store_arm (T : Tx K mg) (pf : PF K) : ∃ fd, FunD K "arm" "Store.arm" (defArgs s_Store_arm) (defBody s_Store_arm) (defScope s_Store_arm) [] [] (He.fAd K ("Store", some "arm")) fd ∧ FnOk P w K mg base CX0 1 (He.fAd K ("Store", some "arm")) fd ["self"] (sp_Store_arm K) := by
  obtain ⟨fd, F⟩ := T.def_ 36 (d := d_Store_arm) rfl
  refine ⟨fd, F, F.ok sc_Store_arm len_Store_arm (fun cdv A outer s H vs Q E hr h => ⟨t_Store_arm K, PSs.nox ?_, pure_Store_arm pf h⟩)⟩
  have nd := (sc_Store_arm).nd
  exact (pss_one (ps_ret (pe_fld (pe_fld (pv 0) rfl) rfl)))
theorem met_Store_arm (T : Tx K mg) (pf : PF K) : Met P w K mg base 1 (He.ga K "Store") "arm" (sp_Store_arm K) [] := by
  obtain ⟨fd, F, G⟩ := ok_Store_arm (P := P) (w := w) (base := base) T pf
  exact ⟨_, fd, _, [], T.cl_Store, T.mt_Store_arm, G, F.bindsN fun _ _ _ _ _ _ us hl => match us, hl with | [_], _ => rfl, .nil⟩
theorem sc_Store_rooms : FnScope ["self"] ["self"] (defScope s_Store_rooms) := ⟨rfl, rfl, rfl, by decide +kernel, rfl, by decide +kernel, by decide +kernel⟩
theorem ok_Store_rooms (T : Tx K mg) (pf : PF K) : ∃ fd, FunD K "rooms" "Store.rooms" (defArgs s_Store_rooms) (defBody s_Store_rooms) (defScope s_Store_rooms) [] [] (He.fAd K ("Store", some "rooms")) fd ∧ FnOk P w K mg base CX0 2 (He.fAd K ("Store", some "rooms")) fd ["self"] (sp_Store_rooms K) := by
  obtain ⟨fd, F⟩ := T.def_ 37 (d := d_Store_rooms) rfl
  refine ⟨fd, F, F.ok sc_Store_rooms len_Store_rooms (fun cdv A outer s H vs Q E hr h => ⟨t_Store_rooms K, PSs.nox ?_, pure_Store_rooms pf h⟩)⟩
  have nd := (sc_Store_rooms).nd
  exact (pss_one (ps_ret (pe_mt0 (met_Disk_rooms T pf) hr (by decide) (pe_fld (pv 0) rfl))))
theorem met_Store_rooms (T : Tx K mg) (pf : PF K) : Met P w K mg base 2 (He.ga K "Store") "rooms" (sp_Store_rooms K) [] := by
  obtain ⟨fd, F, G⟩ := ok_Store_rooms (P := P) (w := w) (base := base) T pf
  exact ⟨_, fd, _, [], T.cl_Store, T.mt_Store_rooms, G, F.bindsN fun _ _ _ _ _ _ us hl => match us, hl with | [_], _ => rfl, .nil⟩
theorem sc__law_cell_at : FnScope ["_law_script", "_law_k"] ["_law_script", "_law_k"] (defScope s__law_cell_at) := ⟨rfl, rfl, rfl, by decide +kernel, rfl, by decide +kernel, by decide +kernel⟩
theorem ok__law_cell_at (T : Tx K mg) (pf : PF K) : ∃ fd, FunD K "_law_cell_at" "_law_cell_at" (defArgs s__law_cell_at) (defBody s__law_cell_at) (defScope s__law_cell_at) [] [] (He.fAd K ("_law_cell_at", none)) fd ∧ FnOk P w K mg base CX0 1 (He.fAd K ("_law_cell_at", none)) fd ["_law_script", "_law_k"] (sp__law_cell_at K) := by
  obtain ⟨fd, F⟩ := T.def_ 39 (d := d__law_cell_at) rfl
  refine ⟨fd, F, F.ok sc__law_cell_at len__law_cell_at (fun cdv A outer s H vs Q E hr h => ⟨t__law_cell_at K, PSs.nox ?_, pure__law_cell_at pf h⟩)⟩
  have nd := (sc__law_cell_at).nd
  exact (pss_cons (ps_if (pt_cmpR op_lt (pv 1) (pe_callB call_len_seq rfl T.fr_len boot_len (pa_cons (pv 0) pa_nil)) (nomark _)) (pss_one (ps_ret (pe_ix ix_list (pv 0) (pv 1) (fun _ _ => rfl)))) pss_nil)
    (pss_one (ps_ret pe_int)))
theorem cal__law_cell_at (T : Tx K mg) (pf : PF K) : Cal P w K mg base 1 "_law_cell_at" (sp__law_cell_at K) [] := by
  obtain ⟨fd, F, G⟩ := ok__law_cell_at (P := P) (w := w) (base := base) T pf
  exact ⟨_, fd, _, [], G, T.gl__law_cell_at, F.kp, F.bindsN fun _ _ _ _ _ _ us hl => match us, hl with | [_, _], _ => rfl, .nil⟩
theorem sc__law_draw : FnScope ["_law_cell", "_law_k", "_law_most", "_law_primes"] ["_law_cell", "_law_k", "_law_most"] (defScope s__law_draw) := ⟨rfl, rfl, rfl, by decide +kernel, rfl, by decide +kernel, by decide +kernel⟩
theorem ok__law_draw (T : Tx K mg) (pf : PF K) : ∃ fd, FunD K "_law_draw" "_law_draw" (defArgs s__law_draw) (defBody s__law_draw) (defScope s__law_draw) [] [] (He.fAd K ("_law_draw", none)) fd ∧ FnOk P w K mg base CX0 1 (He.fAd K ("_law_draw", none)) fd ["_law_cell", "_law_k", "_law_most"] (sp__law_draw K) := by
  obtain ⟨fd, F⟩ := T.def_ 40 (d := d__law_draw) rfl
  refine ⟨fd, F, F.ok sc__law_draw len__law_draw (fun cdv A outer s H vs Q E hr h => ⟨t__law_draw K, PSs.nox ?_, pure__law_draw pf h⟩)⟩
  have nd := (sc__law_draw).nd
  exact (pss_cons (ps_set (i := 3) nd rfl (by first | exact Or.inl rfl | exact Or.inr rfl) (pe_tup (pa_cons pe_int (pa_cons pe_int (pa_cons pe_int (pa_cons pe_int (pa_cons pe_int (pa_cons pe_int (pa_cons pe_int (pa_cons pe_int (pa_cons pe_int (pa_cons pe_int (pa_cons pe_int (pa_cons pe_int (pa_cons pe_int (pa_cons pe_int (pa_cons pe_int (pa_cons pe_int pa_nil))))))))))))))))))
    (pss_one (ps_ret (pe_op op_mod (pe_op op_mod (pe_op op_add (pe_op op_mul (pv 0) pe_int) (pe_op op_mul (pv 1) pe_int)) (pe_ix ix_tup (pv 3) (pe_op op_mod (pv 1) pe_int) (fun _ _ => rfl))) (pv 2)))))
theorem cal__law_draw (T : Tx K mg) (pf : PF K) : Cal P w K mg base 1 "_law_draw" (sp__law_draw K) [] := by
  obtain ⟨fd, F, G⟩ := ok__law_draw (P := P) (w := w) (base := base) T pf
  exact ⟨_, fd, _, [], G, T.gl__law_draw, F.kp, F.bindsN fun _ _ _ _ _ _ us hl => match us, hl with | [_, _, _], _ => rfl, .nil⟩
theorem sc__law_number : FnScope ["_law_cell", "_law_k", "_law_limit", "_law_rest", "_law_turn", "_law_small"] ["_law_cell", "_law_k", "_law_limit"] (defScope s__law_number) := ⟨rfl, rfl, rfl, by decide +kernel, rfl, by decide +kernel, by decide +kernel⟩
theorem ok__law_number (T : Tx K mg) (pf : PF K) : ∃ fd, FunD K "_law_number" "_law_number" (defArgs s__law_number) (defBody s__law_number) (defScope s__law_number) [] [] (He.fAd K ("_law_number", none)) fd ∧ FnOk P w K mg base CX0 2 (He.fAd K ("_law_number", none)) fd ["_law_cell", "_law_k", "_law_limit"] (sp__law_number K) := by
  obtain ⟨fd, F⟩ := T.def_ 41 (d := d__law_number) rfl
  refine ⟨fd, F, F.ok sc__law_number len__law_number (fun cdv A outer s H vs Q E hr h => ⟨t__law_number K, PSs.nox ?_, pure__law_number pf h⟩)⟩
  have nd := (sc__law_number).nd
  exact (pss_cons (ps_set (i := 3) nd rfl (by first | exact Or.inl rfl | exact Or.inr rfl) (pe_op op_sub (pv 0) (pe_op op_pow pe_int pe_int)))
    (pss_cons (ps_for PassesOwn.never rfl (pi_range1 rfl T.fr_range (pa_cons (pe_op op_mod (pv 1) pe_int) pa_nil)) (pg_name (i := 4) nd rfl (by first | exact Or.inl rfl | exact Or.inr rfl)) (pss_one (ps_set (i := 3) nd rfl (by first | exact Or.inl rfl | exact Or.inr rfl) (pe_op op_fdiv (pv 3) pe_int))))
    (pss_cons (ps_if (pt_cmpR op_gt (pv 3) pe_int (nomark _)) (pss_one (ps_ret (pe_op op_mod (pe_op op_mod (pv 3) pe_int) (pv 2)))) pss_nil)
    (pss_cons (ps_set (i := 5) nd rfl (by first | exact Or.inl rfl | exact Or.inr rfl) (pe_op op_mod (pv 0) pe_int))
    (pss_one (ps_ret (pe_op op_mod (pe_c (cal__law_draw T pf) hr (by decide) rfl (pa_cons (pe_op op_mul (pe_op op_add (pv 5) (pe_op op_mul pe_int (pv 1))) (pe_op op_add (pe_op op_add (pv 5) (pe_op op_mul pe_int (pv 1))) pe_int)) (pa_cons (pe_op op_add (pe_op op_mod (pv 1) pe_int) pe_int) (pa_cons pe_int pa_nil)))) (pv 2))))))))
theorem cal__law_number (T : Tx K mg) (pf : PF K) : Cal P w K mg base 2 "_law_number" (sp__law_number K) [] := by
  obtain ⟨fd, F, G⟩ := ok__law_number (P := P) (w := w) (base := base) T pf
  exact ⟨_, fd, _, [], G, T.gl__law_number, F.kp, F.bindsN fun _ _ _ _ _ _ us hl => match us, hl with | [_, _, _], _ => rfl, .nil⟩
theorem sc__law_next : FnScope ["_law_state", "_law_limit", "_law_at", "_law_cell"] ["_law_state", "_law_limit"] (defScope s__law_next) := ⟨rfl, rfl, rfl, by decide +kernel, rfl, by decide +kernel, by decide +kernel⟩
theorem ok__law_next (T : Tx K mg) (pf : PF K) : ∃ fd, FunD K "_law_next" "_law_next" (defArgs s__law_next) (defBody s__law_next) (defScope s__law_next) [] [] (He.fAd K ("_law_next", none)) fd ∧ FnOk P w K mg base CX0 3 (He.fAd K ("_law_next", none)) fd ["_law_state", "_law_limit"] (sp__law_next K) := by
  obtain ⟨fd, F⟩ := T.def_ 42 (d := d__law_next) rfl
  refine ⟨fd, F, F.ok sc__law_next len__law_next (fun cdv A outer s H vs Q E hr h => ⟨t__law_next K, PSs.nox ?_, pure__law_next pf h⟩)⟩
  have nd := (sc__law_next).nd
  exact (pss_cons (ps_asg (pe_op op_add (pe_ix ix_list (pv 0) pe_int (fun _ _ => rfl)) pe_int) (pg_sub (pv 0) pe_int set_list))
    (pss_cons (ps_set (i := 2) nd rfl (by first | exact Or.inl rfl | exact Or.inr rfl) (pe_op op_fdiv (pe_ix ix_list (pv 0) pe_int (fun _ _ => rfl)) pe_int))
    (pss_cons (ps_set (i := 3) nd rfl (by first | exact Or.inl rfl | exact Or.inr rfl) (pe_op op_add (pe_c (cal__law_cell_at T pf) hr (by decide) rfl (pa_cons (pe_ix ix_list (pv 0) pe_int (fun _ _ => rfl)) (pa_cons (pe_op op_add (pe_ix ix_list (pv 0) pe_int (fun _ _ => rfl)) (pv 2)) pa_nil))) (pe_op op_mul pe_int (pv 2))))
    (pss_one (ps_ret (pe_c (cal__law_number T pf) hr (by decide) rfl (pa_cons (pv 3) (pa_cons (pe_op op_add (pe_op op_mod (pe_ix ix_list (pv 0) pe_int (fun _ _ => rfl)) pe_int) pe_int) (pa_cons (pv 1) pa_nil)))))))))
theorem cal__law_next (T : Tx K mg) (pf : PF K) : Cal P w K mg base 3 "_law_next" (sp__law_next K) [] := by
  obtain ⟨fd, F, G⟩ := ok__law_next (P := P) (w := w) (base := base) T pf
  exact ⟨_, fd, _, [], G, T.gl__law_next, F.kp, F.bindsN fun _ _ _ _ _ _ us hl => match us, hl with | [_, _], _ => rfl, .nil⟩
theorem sc__law_deed : FnScope ["_law_state", "_law_rooms", "_law_sort"] ["_law_state", "_law_rooms"] (defScope s__law_deed) := ⟨rfl, rfl, rfl, by decide +kernel, rfl, by decide +kernel, by decide +kernel⟩
theorem ok__law_deed (T : Tx K mg) (pf : PF K) : ∃ fd, FunD K "_law_deed" "_law_deed" (defArgs s__law_deed) (defBody s__law_deed) (defScope s__law_deed) [] [] (He.fAd K ("_law_deed", none)) fd ∧ FnOk P w K mg base CX0 4 (He.fAd K ("_law_deed", none)) fd ["_law_state", "_law_rooms"] (sp__law_deed K) := by
  obtain ⟨fd, F⟩ := T.def_ 43 (d := d__law_deed) rfl
  refine ⟨fd, F, F.ok sc__law_deed len__law_deed (fun cdv A outer s H vs Q E hr h => ⟨t__law_deed K, PSs.nox ?_, pure__law_deed pf h⟩)⟩
  have nd := (sc__law_deed).nd
  exact (pss_cons (ps_set (i := 2) nd rfl (by first | exact Or.inl rfl | exact Or.inr rfl) (pe_c (cal__law_next T pf) hr (by decide) rfl (pa_cons (pv 0) (pa_cons pe_int pa_nil))))
    (pss_cons (ps_if (pt_cmpR op_lt (pv 2) pe_int (nomark _)) (pss_one (ps_ret (pe_tup (pa_cons pe_str (pa_cons (pe_c (cal__law_next T pf) hr (by decide) rfl (pa_cons (pv 0) (pa_cons (pv 1) pa_nil))) (pa_cons pe_int pa_nil)))))) pss_nil)
    (pss_cons (ps_if (pt_cmpR op_lt (pv 2) pe_int (nomark _)) (pss_one (ps_ret (pe_tup (pa_cons pe_str (pa_cons (pe_c (cal__law_next T pf) hr (by decide) rfl (pa_cons (pv 0) (pa_cons (pv 1) pa_nil))) (pa_cons (pe_op op_add (pe_ix ix_tup (pe_tup (pa_cons pe_int (pa_cons pe_int (pa_cons pe_int (pa_cons (pe_un un_neg pe_int) (pa_cons (pe_op op_pow pe_int pe_int) (pa_cons pe_int pa_nil))))))) (pe_c (cal__law_next T pf) hr (by decide) rfl (pa_cons (pv 0) (pa_cons pe_int pa_nil))) (fun _ _ => rfl)) (pe_c (cal__law_next T pf) hr (by decide) rfl (pa_cons (pv 0) (pa_cons pe_int pa_nil)))) pa_nil)))))) pss_nil)
    (pss_cons (ps_if (pt_cmpR op_eq (pv 2) pe_int (nomark _)) (pss_one (ps_ret (pe_tup (pa_cons pe_str (pa_cons pe_int (pa_cons pe_int pa_nil)))))) pss_nil)
    (pss_one (ps_ret (pe_ifExp (pt_cmpR op_lt (pv 2) pe_int (nomark _)) (pe_tup (pa_cons pe_str (pa_cons (pe_c (cal__law_next T pf) hr (by decide) rfl (pa_cons (pv 0) (pa_cons pe_int pa_nil))) (pa_cons pe_int pa_nil)))) (pe_tup (pa_cons (pe_ifExp (pt_cmpR op_eq (pe_c (cal__law_next T pf) hr (by decide) rfl (pa_cons (pv 0) (pa_cons pe_int pa_nil))) pe_int (nomark _)) pe_str pe_str) (pa_cons pe_int (pa_cons pe_int pa_nil)))))))))))
theorem cal__law_deed (T : Tx K mg) (pf : PF K) : Cal P w K mg base 4 "_law_deed" (sp__law_deed K) [] := by
  obtain ⟨fd, F, G⟩ := ok__law_deed (P := P) (w := w) (base := base) T pf
  exact ⟨_, fd, _, [], G, T.gl__law_deed, F.kp, F.bindsN fun _ _ _ _ _ _ us hl => match us, hl with | [_, _], _ => rfl, .nil⟩
theorem sc__law_ask : FnScope ["_law_store", "_law_deed_here", "_law_word", "_law_one", "_law_other"] ["_law_store", "_law_deed_here"] (defScope s__law_ask) := ⟨rfl, rfl, rfl, by decide +kernel, rfl, by decide +kernel, by decide +kernel⟩
theorem ok__law_ask (T : Tx K mg) (pf : PF K) : ∃ fd, FunD K "_law_ask" "_law_ask" (defArgs s__law_ask) (defBody s__law_ask) (defScope s__law_ask) [] [] (He.fAd K ("_law_ask", none)) fd ∧ FnOk P w K mg base CX0 8 (He.fAd K ("_law_ask", none)) fd ["_law_store", "_law_deed_here"] (sp__law_ask K) := by
  obtain ⟨fd, F⟩ := T.def_ 44 (d := d__law_ask) rfl
  refine ⟨fd, F, F.ok sc__law_ask len__law_ask (fun cdv A outer s H vs Q E hr h => ⟨t__law_ask K, PSs.nox ?_, pure__law_ask pf h⟩)⟩
  have nd := (sc__law_ask).nd
  exact (pss_cons (ps_asg (pv 1) (pg_tup rfl (pgs_cons (pg_name (i := 2) nd rfl (by first | exact Or.inl rfl | exact Or.inr rfl)) (pgs_cons (pg_name (i := 3) nd rfl (by first | exact Or.inl rfl | exact Or.inr rfl)) (pgs_cons (pg_name (i := 4) nd rfl (by first | exact Or.inl rfl | exact Or.inr rfl)) pgs_nil)))))
    (pss_cons (ps_if (pt_cmpR op_eq (pv 2) pe_str (nomark _)) (pss_one (ps_ret (pe_mt (met_Store_read T pf) hr (by decide) (pv 0) (pa_cons (pv 3) pa_nil)))) pss_nil)
    (pss_cons (ps_if (pt_cmpR op_eq (pv 2) pe_str (nomark _)) (pss_one (ps_ret (pe_mt (met_Store_write T pf) hr (by decide) (pv 0) (pa_cons (pv 3) (pa_cons (pv 4) pa_nil))))) pss_nil)
    (pss_cons (ps_if (pt_cmpR op_eq (pv 2) pe_str (nomark _)) (pss_one (ps_ret (pe_mt0 (met_Store_order T pf) hr (by decide) (pv 0)))) pss_nil)
    (pss_cons (ps_if (pt_cmpR op_eq (pv 2) pe_str (nomark _)) (pss_one (ps_ret (pe_mt0 (met_Store_sync T pf) hr (by decide) (pv 0)))) pss_nil)
    (pss_one (ps_ret (pe_ifExp (pt_cmpR op_ne (pv 3) pe_int (nomark _)) (pe_mtK (kt_Store_idle_many T pf) hr (by decide) (pv 0) (pk_cons (pv 3) pk_nil)) (pe_mt0 (met_Store_idle T pf) hr (by decide) (pv 0))))))))))
theorem cal__law_ask (T : Tx K mg) (pf : PF K) : Cal P w K mg base 8 "_law_ask" (sp__law_ask K) [] := by
  obtain ⟨fd, F, G⟩ := ok__law_ask (P := P) (w := w) (base := base) T pf
  exact ⟨_, fd, _, [], G, T.gl__law_ask, F.kp, F.bindsN fun _ _ _ _ _ _ us hl => match us, hl with | [_, _], _ => rfl, .nil⟩
theorem sc_law : FnScope ["_law_script", "_law_by", "_law_state", "_law_rooms", "_law_disks", "_law_stores", "_law_turn", "_law_deed_here", "_law_told", "_law_looks", "_law_lots", "_law_store", "_law_disk"] ["_law_script"] (defScope s_law) := ⟨rfl, rfl, rfl, by decide +kernel, rfl, by decide +kernel, by decide +kernel⟩
theorem ok_law (T : Tx K mg) (pf : PF K) : ∃ fd, FunD K "law" "law" (defArgs s_law) (defBody s_law) (defScope s_law) [] [] (He.fAd K ("law", none)) fd ∧ FnG P w K mg base CX0 9 (He.fAd K ("law", none)) fd ["_law_script"] (sp_law K) := by
  obtain ⟨fd, F⟩ := T.def_ 45 (d := d_law) rfl
  refine ⟨fd, F, okG (FunD.mk F.ex F.kp) sc_law len_law (fun cdv A outer s H vs Q E hr hgd h => ⟨t_law K, PSs.nox ?_, pure_law pf h⟩)⟩
  have nd := (sc_law).nd
  exact (pss_cons (ps_if (pt_cmpR op_ne (pe_callTy (call_strD hgd hr.units) rfl T.fr_str boot_str (pa_cons (pe_lst (pa_cons (pe_gc rfl (T.gc_FRAMES)) (pa_cons (pe_gc rfl (T.gc_DIRTY)) (pa_cons (pe_gc rfl (T.gc_PATIENCE)) pa_nil)))) pa_nil)) pe_str (nomark _)) (pss_one (ps_ret pe_bl)) pss_nil)
    (pss_cons (ps_for PassesOwn.never rfl (pi_range3 rfl T.fr_range (pa_cons pe_int (pa_cons (pe_callB (call_max2 rfl) rfl T.fr_max boot_max (pa_cons pe_int (pa_cons (pe_callB (call_min2 rfl) rfl T.fr_min boot_min (pa_cons pe_int (pa_cons (pe_callB call_len_seq rfl T.fr_len boot_len (pa_cons (pv 0) pa_nil)) pa_nil))) pa_nil))) (pa_cons pe_int pa_nil)))) (pg_name (i := 1) nd rfl (by first | exact Or.inl rfl | exact Or.inr rfl)) (pss_cons (ps_set (i := 2) nd rfl (by first | exact Or.inl rfl | exact Or.inr rfl) (pe_lst (pa_cons (pv 0) (pa_cons (pv 1) (pa_cons pe_int pa_nil)))))
    (pss_cons (ps_set (i := 3) nd rfl (by first | exact Or.inl rfl | exact Or.inr rfl) (pe_op op_add pe_int (pe_c (cal__law_next T pf) hr (by decide) rfl (pa_cons (pv 2) (pa_cons pe_int pa_nil)))))
    (pss_cons (ps_set (i := 4) nd rfl (by first | exact Or.inl rfl | exact Or.inr rfl) (pe_lst (pa_cons (pe_mk (mak_Disk T pf) hr (by decide) rfl (pa_cons (pv 3) pa_nil)) (pa_cons (pe_mk (mak_Disk T pf) hr (by decide) rfl (pa_cons (pv 3) pa_nil)) (pa_cons (pe_mk (mak_Disk T pf) hr (by decide) rfl (pa_cons (pv 3) pa_nil)) pa_nil)))))
    (pss_cons (ps_set (i := 5) nd rfl (by first | exact Or.inl rfl | exact Or.inr rfl) (pe_lst (pa_cons (pe_mk (mak_Store T pf) hr (by decide) rfl (pa_cons (pe_ix ix_list (pv 4) pe_int (fun _ _ => rfl)) pa_nil)) (pa_cons (pe_mkK (km_Store_frames_dirty_patience T pf) hr (by decide) rfl (pa_cons (pe_ix ix_list (pv 4) pe_int (fun _ _ => rfl)) pa_nil) (pk_cons (pe_gc rfl (T.gc_FRAMES)) (pk_cons (pe_gc rfl (T.gc_DIRTY)) (pk_cons (pe_gc rfl (T.gc_PATIENCE)) pk_nil)))) pa_nil))))
    (pss_cons (ps_expr (pe_bm PySem.F.plainAttrs_list PySem.F.slot_list_append PySem.F.type_list_append mt_append (pv 5) (pa_cons (pe_mkK (km_Store_patience_dirty_frames T pf) hr (by decide) rfl (pa_cons (pe_ix ix_list (pv 4) pe_int (fun _ _ => rfl)) pa_nil) (pk_cons pe_int (pk_cons pe_int (pk_cons pe_int pk_nil)))) pa_nil)))
    (pss_one (ps_for PassesOwn.never rfl (pi_range1 rfl T.fr_range (pa_cons pe_int pa_nil)) (pg_name (i := 6) nd rfl (by first | exact Or.inl rfl | exact Or.inr rfl)) (pss_cons (ps_set (i := 7) nd rfl (by first | exact Or.inl rfl | exact Or.inr rfl) (pe_c (cal__law_deed T pf) hr (by decide) rfl (pa_cons (pv 2) (pa_cons (pv 3) pa_nil))))
    (pss_cons (ps_setLc (i := 8) (own := [("_law_store", 11)]) rfl nd rfl rfl (sw_true rfl rfl rfl (by decide +kernel)) (pi_list (pv 5)) (blkOk_by (N := ["_law_script", "_law_by", "_law_state", "_law_rooms", "_law_disks", "_law_stores", "_law_turn", "_law_deed_here", "_law_told", "_law_looks", "_law_lots", "_law_store", "_law_disk"]) (sc := defScope s_law) (by decide +kernel)) (fun _ _ _ _ _ => (pg_name (i := 11) nd rfl (by first | exact Or.inl rfl | exact Or.inr rfl))) (fun _ _ _ _ _ => pts_nil) (fun _ _ _ _ _ => (pe_callTy (call_strD hgd hr.units) rfl T.fr_str boot_str (pa_cons (pe_c (cal__law_ask T pf) hr (by decide) rfl (pa_cons (pv 11) (pa_cons (pv 7) pa_nil))) pa_nil))))
    (pss_cons (ps_setLc (i := 9) (own := [("_law_store", 11)]) rfl nd rfl rfl (sw_true rfl rfl rfl (by decide +kernel)) (pi_list (pv 5)) (blkOk_by (N := ["_law_script", "_law_by", "_law_state", "_law_rooms", "_law_disks", "_law_stores", "_law_turn", "_law_deed_here", "_law_told", "_law_looks", "_law_lots", "_law_store", "_law_disk"]) (sc := defScope s_law) (by decide +kernel)) (fun _ _ _ _ _ => (pg_name (i := 11) nd rfl (by first | exact Or.inl rfl | exact Or.inr rfl))) (fun _ _ _ _ _ => pts_nil) (fun _ _ _ _ _ => (pe_callTy (call_strD hgd hr.units) rfl T.fr_str boot_str (pa_cons (pe_lst (pa_cons (pe_mt0 (met_Store_held T pf) hr (by decide) (pv 11)) (pa_cons (pe_mt0 (met_Store_queue T pf) hr (by decide) (pv 11)) (pa_cons (pe_mt0 (met_Store_arm T pf) hr (by decide) (pv 11)) pa_nil)))) pa_nil))))
    (pss_cons (ps_setLc (i := 10) (own := [("_law_disk", 12)]) rfl nd rfl rfl (sw_true rfl rfl rfl (by decide +kernel)) (pi_list (pv 4)) (blkOk_by (N := ["_law_script", "_law_by", "_law_state", "_law_rooms", "_law_disks", "_law_stores", "_law_turn", "_law_deed_here", "_law_told", "_law_looks", "_law_lots", "_law_store", "_law_disk"]) (sc := defScope s_law) (by decide +kernel)) (fun _ _ _ _ _ => (pg_name (i := 12) nd rfl (by first | exact Or.inl rfl | exact Or.inr rfl))) (fun _ _ _ _ _ => pts_nil) (fun _ _ _ _ _ => (pe_callTy (call_strD hgd hr.units) rfl T.fr_str boot_str (pa_cons (pe_lst (pa_cons (pe_mt0 (met_Disk_lasting T pf) hr (by decide) (pv 12)) (pa_cons (pe_mt0 (met_Disk_shown T pf) hr (by decide) (pv 12)) (pa_cons (pe_mt0 (met_Disk_lots T pf) hr (by decide) (pv 12)) pa_nil)))) pa_nil))))
    (pss_one (ps_if (PW.pt (pw_or (pt_cmpR (op_neD hr.units) (pv 8) (pe_op op_rep (pe_slice sl_list (pv 8) po_none (po_some pe_int)) pe_int) (nomark _)) (pw_or (pt_cmpR (op_neD hr.units) (pv 9) (pe_op op_rep (pe_slice sl_list (pv 9) po_none (po_some pe_int)) pe_int) (nomark _)) (pw_or1 (pt_cmpR (op_neD hr.units) (pv 10) (pe_op op_rep (pe_slice sl_list (pv 10) po_none (po_some pe_int)) pe_int) (nomark _)))))) (pss_one (ps_ret pe_bl)) pss_nil))))))))))))))
    (pss_one (ps_ret pe_bl))))
end
theorem law_end {l : PySem.W.OpenLaw} {w : World} {K : PySem.W.Frag} {mg : Str → Option Value} {fa : Addr} {h : Heap} (KX : K.In h) (G : h.Ns mainGlobals mg) (hmg : mg "law" = some (.ref fa)) (c : Says K) :
    ∃ (K : PySem.W.Frag) (fd : FuncData) (sp : Sp), K.In h ∧ (∀ (s : Shared) (u : Value), BindsTo s fd ⟨[u], []⟩ [("_law_script", u)]) ∧
      (∀ (H : Hp) (a : Addr) (ns : List Int), ns.length ≤ 63 → Only H → SqL K H a (ns.map V.int) → sp [.ref a] H (fun v _ => v = .bl true) fun _ _ _ => False) ∧
      ∀ base : Heap, K.In base → base.Ns mainGlobals mg → FnG l.prog w K mg base CX0 9 fa fd ["_law_script"] sp := by
  have T : Tx K mg := ⟨c, h, KX, G⟩
  have e := hmg.symm.trans T.gl_law
  cases e
  have pf := mk_pf T
  obtain ⟨fd, F⟩ := T.def_ 45 (d := d_law) rfl
  refine ⟨K, fd, sp_law K, KX, fun s u => FunD.bindsA (ps := ["_law_script"]) F (fun _ _ _ _ _ _ us hl => match us, hl with | [_], _ => rfl) s [u] rfl, fun H a ns hl _ hS => law_start hl hS, fun base _ _ => ?_⟩
  obtain ⟨fd2, F2, G2⟩ := ok_law (P := l.prog) (w := w) (base := base) T pf
  obtain ⟨oc, od, dV, kV, doc, pm, an, cdv, ct, osl, rfl, lk, _⟩ := F.ex
  obtain ⟨oc2, od2, dV2, kV2, doc2, pm2, an2, cdv2, ct2, osl2, e2, lk2, _⟩ := F2.ex
  have e3 := lk.symm.trans lk2
  injection e3 with e3
  injection e3 with _ _ e3 _
  injection e3 with e3
  rw [e3]
  exact G2
end SY
open PySem PySem.W PySem.Calls PyProof.Rows
set_option maxRecDepth 100000 in
set_option maxHeartbeats 0 in
theorem PySem.Challenge.cw_syncrooms_k13_by_default_holds : PySem.Challenge.rw_syncrooms_k13_by_default.Holds := by
  w_on; o_law
  refine HandSHeadRun.head_any (r := OpenLaw.row PySem.Challenge.rw_syncrooms_k13_by_default) (q := view (OpenLaw.row PySem.Challenge.rw_syncrooms_k13_by_default).prog [35]) (H := SY.hk) (ob := SY.ob) (M := 20000) (loose := SY.nms) (d := HandSHeadRun.topDef (OpenLaw.row PySem.Challenge.rw_syncrooms_k13_by_default).prog 35) (kwd := []) SY.ob_eq
    (by kernel_rfl) (fun s => by kernel_rfl) SY.run (by kernel_rfl) (by kernel_rfl) (by kernel_rfl) (by rfl) (by first | assumption | decide +kernel) (by decide +kernel) ⟨rfl, rfl, rfl, rfl, rfl, by decide +kernel⟩ ?hw ?hc
  case hw => w_witness2
  case hc =>
    refine XB.walk_ofG (l := PySem.Challenge.rw_syncrooms_k13_by_default) (n := 63) (k := 9) (x := "_law_script") (CX := L2.CX0) rfl (by decide) (by kernel_rfl) ⟨rfl, by decide, by decide⟩ ?F (fun _ _ _ _ z => z)
    intro w mg fa h Y G hmg0
    obtain ⟨K, KX, c⟩ := Y
    have hmg : mg ("law" : PySem.Str) = some (.ref fa) := by
      rw [← (show (HandSHeadRun.topDef (OpenLaw.row PySem.Challenge.rw_syncrooms_k13_by_default).prog 35).name = ("law" : PySem.Str) by kernel_rfl)]
      exact hmg0
    exact SY.law_end KX G hmg c
