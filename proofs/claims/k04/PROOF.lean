import PyProof.Rows.All
import Wide.All
import OpenK.AllK
import Wide.FinOn
import PyProof.ReprRoads
import KE.KUnpack
import KE.DataMinKey
import HandS.Base
import HandS.Call
import HandS.List
import HandS.Words
import HandS.Defaults
import HandS.Ends
import KE.DataCmp
import HandS.More
import HandS.SortKw
import KE.SortKeyHeap
import PyProof.NeData
import HandS.Codes
import HandS.MakeKwOnly
import HandS.Deep
import HandS.IsInst
import HandS.TupLe
import HandS.Iter
import HandS.Comp
import HandS.NoneIn
import HandS.Exc
import HandS.Walk
import HandS.Small
import KE.KAssignIn
import HandS.Strs
import HandS.SetFor
import PyProof.Rows.SetFrom
import KE.SortData
import KE.DataMinMax
import PyProof.Rows.RowBridgeK
import HandS.ExcOwn
import HandS.WordsExc
import HandS.TryOnly
import KE.GoesRaise
import HandS.ExcIs
import HandS.ExcBuiltin
import HandS.DictComp
import HandS.WordsDict
import HandS.Conv
import HandS.Head0
import HandS.Head1
import HandS.Head2
import HandS.HeadEnd
import HandS.HeadHook1
import HandS.HeadHook2
import KE.KStateDown
import PySem.Challenge.RW_syncrooms_k04_whole_counted
set_option Elab.async false
set_option linter.all false
set_option maxRecDepth 100000
set_option maxHeartbeats 0
set_option maxRecDepth 100000
set_option maxHeartbeats 4000000
/-! ## Rules that the hand layer lacks -/
namespace XB
open PySem PySem.Spec PyProof.Rows L2

/-! ### defs that know that nothing is being shown (for str of lists) -/
structure FnG (P : Program) (w : World) (K : PySem.W.Frag) (mg : Str → Option Value) (base : Heap) (CX : CXT) (k : Nat) (f : Addr) (fd : FuncData) (ps : List Str) (sp : Sp) : Prop where
  len : ∀ vs H Q E, sp vs H Q E → vs.length = ps.length
  run : ∀ (A : Around) (outer : List Env) (s : Shared) (H : Hp) (args : Args) (us : List Value) (vs : List V) (Q : VK) (E : XK), Room k A → A.guards = some [] → Env0 P w K mg base A outer s H → BindsTo s fd args (ps.zip us) → Vals vs us → sp vs H Q E →
    codeAny (model P w) A (.call (.ref f) args) (CR CX outer P w H s Q E) s

/-- a body's normal end hands back a value -/
theorem end_val {X : Cx} {Q : VK} {fl : Flow} {s' : Shared} (h : SP X [] { nx := fun _ H' => Q .non H', rt := Q } fl s') :
    ∃ σ' v u H', Inv X [] σ' H' s' ∧ RelV v u ∧ Q v H' ∧ ((fl = .next ∧ u = Value.none) ∨ fl = .ret u) := by
  cases fl with
  | brk => exact (h.elim fun _ h => h.elim fun _ h => h.2.elim)
  | cont => exact (h.elim fun _ h => h.elim fun _ h => h.2.elim)
  | next =>
    obtain ⟨σ1, G, J, k⟩ := h
    exact ⟨σ1, .non, .none, G, J, rfl, k, .inl ⟨rfl, rfl⟩⟩
  | ret z =>
    obtain ⟨y, σ1, G, J, rz, k⟩ := h
    exact ⟨σ1, y, z, G, J, rz, k, .inr rfl⟩
theorem fn_ofG {CX : CXT} {P : Program} {w : World} {K : PySem.W.Frag} {mg : Str → Option Value} {base : Heap} {k : Nat} {f : Addr} {name qual : Str} {params : Arguments} {body : List Stmt} {scope : Scope} {dV kV doc pm cdv ct oc : Value} {an od : Option Addr}
    {osl : Array (Option Value)} {N ps : List Str} {sp : Sp} (lk : K.lookup f = some ⟨oc, od, .func (PySem.W.fnOf name qual params body scope dV kV doc pm an cdv ct), osl⟩) (hcd : PySem.W.codeIn K cdv qual = true) (S : FnScope N ps scope)
    (len : ∀ vs H Q E, sp vs H Q E → vs.length = ps.length)
    (hbody : ∀ (A : Around) (outer : List Env) (s : Shared) (H : Hp) (vs : List V) (Q : VK) (E : XK), Room k (A.deeper (envOfC qual scope s.heap.objs.size f cdv)) → A.guards = some [] → sp vs H Q E →
      ∃ t, PSs (cxOf CX P w K mg base N qual scope f cdv A outer s H E) body t ∧ t { nx := fun _ H' => Q .non H', rt := Q } (start N vs) H) :
    FnG P w K mg base CX (k + 1) f (PySem.W.fnOf name qual params body scope dV kV doc pm an cdv ct) ps sp where
  len := len
  run := by
    intro A outer s H args us vs Q E room quiet at0 bound rel want
    have old : ∀ b o, base.get? b = some o → s.heap.get? b = some o := fun b o e => (at0.bs b o e).1
    have inK := at0.mod.kin.keeps old
    obtain ⟨t, walk, reads⟩ := hbody A outer s H vs Q E (room.deeper _) quiet want
    refine codeAny_call_function room.depth (inK _ _ lk) rfl S.co S.gen rfl (PySem.W.codeRec_of inK hcd) (bound _ _ _ _ (wpAny_newFunctionEnv_cells S.kind (fun y hy => ?_) fun env he s1 x => ?_))
    · rcases S.par y.1 (List.of_mem_zip (show (y.1, y.2) ∈ ps.zip us from hy)).1 with q | q
      · exact Or.inl q
      · exact Or.inr ⟨q, PySem.W.cellsFrom_some _ _ _ (Or.inl q)⟩
    · subst he
      refine ⟨(at0.mod.nolimit.keeps old).keeps x.toInCall.keep, codeAny_func (wpAny_mono (walk.run [] s1 (start N vs) H _ (inv_start S room.hd at0 (len _ _ _ _ want) rel x) reads) (fun fl s' he => ?_) fun _ _ z => z)⟩
      obtain ⟨σ1, v, u, G, J, rv, q, e⟩ := end_val he
      have done : CE outer P w H s Q u s' := ⟨v, G, J.os, J.bare, J.base, J.hok, rv, q⟩
      rcases e with ⟨rfl, rfl⟩ | rfl
      · exact done
      · exact done

section
variable {P : Program} {w : World} {K : PySem.W.Frag} {mg : Str → Option Value} {base : Heap} {x qual : Str} {params : Arguments} {body : List Stmt} {scope : Scope} {dvs : List V} {kws : List (Str × V)} {f : Addr} {fd : FuncData}
theorem okG {CX : CXT} {N ps : List Str} {k : Nat} {sp : Sp} (F : FunD K x qual params body scope dvs kws f fd) (S : FnScope N ps scope) (len : ∀ vs H Q E, sp vs H Q E → vs.length = ps.length)
    (hbody : ∀ (cdv : Value) (A : Around) (outer : List Env) (s : Shared) (H : Hp) (vs : List V) (Q : VK) (E : XK), Room k (A.deeper (envOfC qual scope s.heap.objs.size f cdv)) → A.guards = some [] → sp vs H Q E →
      ∃ t, PSs (cxOf CX P w K mg base N qual scope f cdv A outer s H E) body t ∧ t { nx := fun _ H' => Q .non H', rt := Q } (start N vs) H) : FnG P w K mg base CX (k + 1) f fd ps sp := by
  obtain ⟨oc, od, dV, kV, doc, pm, an, cdv, ct, osl, rfl, lk, hcd, _, _⟩ := F.ex
  exact fn_ofG lk hcd S len fun A outer s H vs Q E hr hg hsp => hbody cdv A outer s H vs Q E hr hg hsp
end
theorem FnG.of {P : Program} {w : World} {K : PySem.W.Frag} {mg : Str → Option Value} {base : Heap} {CX : CXT} {k : Nat} {f : Addr} {fd : FuncData} {ps : List Str} {sp : Sp} (F : FnOk P w K mg base CX k f fd ps sp) : FnG P w K mg base CX k f fd ps sp :=
  ⟨F.len, fun A outer s H args us vs Q E hr _ e0 hb r hsp => F.run A outer s H args us vs Q E hr e0 hb r hsp⟩

section
variable {X : Cx} {CX : CXT} {k : Nat} {f C : Addr} {fd : FuncData} {ps : List Str} {sp : Sp} {dvs : List V} {ds : List Value} {E : XK} {x m : Str} {p pos apos : Pos} {e o : Expr} {es : List Expr} {ta : TE} {t : TA}
theorem run_fnG {pins : List (Addr × Obj)} {σ : L2.St} {H : Hp} {s : Shared} {Q : VK} {us : List Value} {vs : List V} (F : FnG X.prog X.w X.K X.mg X.base CX k f fd ps sp) (hr : Room k X.A) (hgd : X.A.guards = some []) (hb : Binds X.K fd ps ds) (hd : Vals dvs ds) (hx : Passes CX X E)
    (I : Inv X pins σ H s) (r : Vals vs us) (h : sp (vs ++ dvs) H Q E) : wpAny (model X.prog X.w) X.A (call (.ref f) us) (EP X pins σ Q) X.xe s := by
  have r2 : Vals (vs ++ dvs) (us ++ ds) := r.append hd
  have hl : (us ++ ds).length = ps.length := by rw [← r2.length]; exact F.len _ _ _ _ h
  refine wpAny_call (codeAny_mono (F.run X.A X.stack s H ⟨us, []⟩ (us ++ ds) (vs ++ dvs) Q E hr hgd I.env0 (hb s us I.kIn hl) r2 h) fun r s' hq => ?_)
  cases r with
  | error e => exact hx pins σ H s e s' I hq
  | ok fl =>
    cases fl with
    | ret u => exact I.after hq
    | next => exact False.elim hq
    | brk => exact False.elim hq
    | cont => exact False.elim hq
theorem pe_callG (F : FnG X.prog X.w X.K X.mg X.base CX k f fd ps sp) (hr : Room k X.A) (hgd : X.A.guards = some []) (hg : Gl X x) (hm : X.mg x = some (.ref f)) (hk : PySem.W.keepIn X.K (.ref f) = true) (hb : Binds X.K fd ps ds) (hd : Vals dvs ds) (hx : Passes CX X E)
    (ha : PA X (e :: es) t) (hdb : (x == ("__debug__" : Str)) = false := by decide) (he : starEach (e :: es) X.env = (false, eval e X.env) :: starEach es X.env := by rfl) (hpl : (backTo pos (starEach es X.env)).any (·.1) = false := by rfl) :
    PE X (.Call (.Name x p) (e :: es) [] pos) (tCall sp dvs E t) := by
  refine ⟨fun pins s σ H Q I h => ?_⟩
  refine wpAny_Call_Name_kw (ld_glob I hg hm ?_ hdb)
  refine PySem.W.callWith_K (h₀ := X.base) I.ok.mod.kin hk (thn (ha.run pos pins s σ H _ I h) fun us s1 ⟨vs, H1, I1, r, q⟩ => ⟨I1.kIn, ?_⟩) he hpl
  exact run_fnG F hr hgd hb hd hx I1 r q
theorem pe_callG0 (F : FnG X.prog X.w X.K X.mg X.base CX k f fd ps sp) (hr : Room k X.A) (hgd : X.A.guards = some []) (hg : Gl X x) (hm : X.mg x = some (.ref f)) (hk : PySem.W.keepIn X.K (.ref f) = true) (hb : Binds X.K fd ps ds) (hd : Vals dvs ds) (hx : Passes CX X E)
    (hdb : (x == ("__debug__" : Str)) = false := by decide) : PE X (.Call (.Name x p) [] [] pos) (tCall sp dvs E tNil) := by
  refine ⟨fun pins s σ H Q I h => ?_⟩
  refine wpAny_Call_Name_kw (ld_glob I hg hm ?_ hdb)
  exact PySem.W.callWith_K0 I.kIn hk (run_fnG (us := []) F hr hgd hb hd hx I .nil h)
end

/-! ### the law's end -/
/-- the script alone is tracked: as an object that is known, where the written part does not have it -/
def scrH (a : Addr) (o : Obj) (xs : List V) (b : Bool) : Hp := fun c => if b = true ∧ c = a then some (.frz o (.lst xs)) else none
theorem scrH_some {a c : Addr} {o : Obj} {xs : List V} {b : Bool} {u : HO} (h : scrH a o xs b c = some u) : b = true ∧ c = a ∧ u = .frz o (.lst xs) := by
  unfold scrH at h
  split at h
  · rename_i g
    exact ⟨g.1, g.2, (Option.some.inj h).symm⟩
  · cases h
theorem law_callG {P : Program} {w : World} {K : PySem.W.Frag} {mg mb : Str → Option Value} {CX : CXT} {k : Nat} {fa a : Addr} {fd : FuncData} {x : Str} {sp : Sp} {s₁ : Shared} {vs : List Value} {ns : List Int}
    (KX : K.In s₁.heap) (hns : s₁.heap.Ns mainGlobals mg) (hb : s₁.heap.Ns builtinsNs mb) (hbb : ∀ x : Str, x ≠ "__name__" → mb x = bootBuiltins x) (hlim : s₁.heap.NoLimit) (hg : s₁.gens = #[])
    (ha : s₁.heap.get? a = some { cls := .type "list", data := .seq vs.toArray }) (hi : IntsAre vs ns) (hl : ns.length ≤ sizeLine) (hr : Room k callerA)
    (F : ∀ base : Heap, K.In base → base.Ns mainGlobals mg → FnG P w K mg base CX k fa fd [x] sp) (hbind : ∀ (s : Shared) (u : Value), BindsTo s fd ⟨[u], []⟩ [(x, u)])
    (hsp : ∀ H : Hp, Only H → SqL K H a (ns.map V.int) → sp [.ref a] H (fun v _ => v = .bl true) fun _ _ _ => False)
    (hCX : ∀ H e s', CX [] H s₁ (fun _ _ _ => False) e s' → False) :
    codeAny (model P w) callerA (.call (.ref fa) ⟨[.ref a], []⟩) (fun r s' => r = .ok (.ret (.bool true)) ∧ OldK s₁.heap s'.heap ∧ s'.os = s₁.os ∧ AllBare s'.gens) s₁ := by
  have lenV := hi.length
  obtain ⟨tr, htr⟩ : ∃ tr : Bool, tr = (K.lookup a).isNone := ⟨_, rfl⟩
  obtain ⟨T, hT⟩ : ∃ T : Hp, T = scrH a { cls := .type "list", data := .seq vs.toArray } (ns.map V.int) tr := ⟨_, rfl⟩
  have off : ∀ c u, T c = some u → c = a ∧ K.lookup a = none ∧ u = .frz { cls := .type "list", data := .seq vs.toArray } (.lst (ns.map V.int)) := fun c u e => by
    obtain ⟨h1, h2, h3⟩ := scrH_some (hT ▸ e)
    exact ⟨h2, by simpa [h1] using htr, h3⟩
  have none_of : ∀ {c : Addr}, (∀ u, T c ≠ some u) → T c = none := fun {c} h => by
    cases e : T c with
    | none => rfl
    | some u => exact absurd e (h u)
  have held : HOk P w T s₁.heap := fun c u e => by
    obtain ⟨rfl, _, rfl⟩ := off c u e
    exact ⟨ha, by rw [List.length_map]; exact hl, vs, _, vals_ints hi, ha⟩
  have down : ∀ {c : Addr} {m : Str → Option Value}, s₁.heap.Ns c m → (hidT s₁.heap T).Ns c m := fun {c m} h => by
    obtain ⟨o, es, ep, e, d, r⟩ := h
    refine ⟨o, es, ep, hidT_get e (none_of fun u z => ?_), d, r⟩
    obtain ⟨rfl, _⟩ := off c u z
    rw [ha] at e
    rw [← Option.some.inj e] at d
    cases d
  have inB : K.In (hidT s₁.heap T) := fun c o e => hidT_get (KX c o e) (none_of fun u z => by
    obtain ⟨rfl, h2, _⟩ := off c u z
    rw [h2] at e
    cases e)
  have lim : (hidT s₁.heap T).NoLimit := hlim.elim fun mc h => ⟨mc, down h.1, h.2⟩
  have only : Only T := fun c => by
    cases e : T c with
    | none => exact Or.inl rfl
    | some u => exact Or.inr ⟨_, _, congrArg some (off c u e).2.2⟩
  have seq : SqL K T a (ns.map V.int) := by
    cases e : K.lookup a with
    | none =>
      refine Or.inl (Or.inr ⟨{ cls := .type "list", data := .seq vs.toArray }, ?_⟩)
      rw [hT]
      exact if_pos ⟨by rw [htr, e]; rfl, rfl⟩
    | some o =>
      have e2 := KX a o e
      rw [ha] at e2
      cases e2
      exact Or.inr ⟨_, vs.toArray, _, e, rfl, rfl, rfl, by rw [List.size_toArray, lenV]; exact hl, by simpa using vals_ints hi⟩
  have start0 : Env0 P w K mg (hidT s₁.heap T) callerA [] s₁ T := ⟨rfl, ⟨inB, down hns, ⟨mb, down hb, hbb⟩, lim⟩, fun _ _ e => of_hidT e, Nat.le_of_eq (hidT_size _ _), trivial, fun c hc => absurd hc List.not_mem_nil, held, AllBare.of_eq hg⟩
  refine codeAny_mono ((F _ inB (down hns)).run callerA [] s₁ T ⟨[.ref a], []⟩ [.ref a] [.ref a] _ _ hr rfl start0 (hbind s₁ _) (.cons rfl .nil) (hsp T only seq)) (fun r s' out => ?_)
  rcases r with e | (_ | _ | _ | u)
  · exact (hCX T e s' out).elim
  all_goals try exact False.elim out
  obtain ⟨v, T', hos, bare, un, held', rv, ev⟩ := out
  have ev' : v = .bl true := ev
  subst ev'
  have eu : u = Value.bool true := rv
  subst eu
  refine ⟨rfl, OldK.of_keep fun c o e => ?_, hos, bare⟩
  cases q : T c with
  | none => exact un.keep c o e q List.not_mem_nil List.not_mem_nil
  | some y =>
    obtain ⟨_, _, rfl⟩ := off c y q
    have e1 := (held c _ q).1
    rw [e] at e1
    rw [Option.some.inj e1]
    exact (held' c _ (un.frzs c _ _ q)).1
theorem walk_ofG {l : PySem.W.OpenLaw} {n k : Nat} {q : Program} {loose : List Str} {XP : (Str → Option Value) → Heap → Prop} {YP : World → Heap → Prop} {d : DefRec} {CX : CXT} {x : Str}
    (hn : l.most = some n) (hn2 : n ≤ sizeLine) (hdf : d.params.defaults = []) (hr : Room k callerA)
    (F : ∀ (w : World) (mg : Str → Option Value) (fa : Addr) (h : Heap), YP w h → h.Ns mainGlobals mg → mg d.name = some (.ref fa) →
      ∃ (K : PySem.W.Frag) (fd : FuncData) (sp : Sp), K.In h ∧ (∀ (s : Shared) (u : Value), BindsTo s fd ⟨[u], []⟩ [(x, u)]) ∧
        (∀ (H : Hp) (a : Addr) (ns : List Int), ns.length ≤ n → Only H → SqL K H a (ns.map V.int) → sp [.ref a] H (fun v _ => v = .bl true) fun _ _ _ => False) ∧
        ∀ base : Heap, K.In base → base.Ns mainGlobals mg → FnG l.prog w K mg base CX k fa fd [x] sp)
    (hCX : ∀ (H : Hp) (s : Shared) (e : Value) (s' : Shared), CX [] H s (fun _ _ _ => False) e s' → False) :
    PySem.W.WalkO q loose XP YP l.row.toRowW d [] (fun f vs => PySem.call f vs) := by
  refine Att.attach_call hn hdf fun w s₀ s₁ mg mb fa o pm cd doc a vs ns G Y ho hd hcd hmg hobj hints hlen hg => ?_
  obtain ⟨K, fd, sp, KX, hb, hsp, hF⟩ := F w mg fa _ Y G.T.g hmg
  exact law_callG KX G.T.g G.T.b G.T.builtins G.T.nolimit hg hobj hints (Nat.le_trans hlen hn2) hr hF hb (fun H hO hS => hsp H a ns hlen hO hS) fun H e s' => hCX H s₁ e s'

/-! ### str of data -/
section
variable {K : PySem.W.Frag} {H : Hp}
mutual
theorem dp_noDict : ∀ (d : PyData) (v : V), Dp K H v d → d.hasDict = false
  | .none, _, _ => rfl
  | .bool _, _, _ => rfl
  | .int _, _, _ => rfl
  | .str _, _, _ => rfl
  | .list ds, _, h => by
    cases h with
    | lst hs ha => exact dp_noDictAll ds _ ha
  | .tuple ds, _, h => by
    cases h with
    | tup hs ha => exact dp_noDictAll ds _ ha
  | .dict _, _, h => by cases h
theorem dp_noDictAll : ∀ (ds : List PyData) (vs : List V), DpAll K H vs ds → PyData.hasDictAll ds = false
  | [], _, _ => rfl
  | d :: ds, _, h => by
    cases h with
    | cons h1 h2 => exact Bool.or_eq_false_iff.mpr ⟨dp_noDict d _ h1, dp_noDictAll ds _ h2⟩
end
end
section
variable {X : Cx}
/-- str(a list | a tuple), nothing being shown -/
theorem call_str_dp (hg : X.A.guards = some []) (hu : X.A.units + 64 < cLine) : CallR X (.type "str") (fun xs H Q => ∃ a d, xs = [.ref a] ∧ Dp X.K H (.ref a) d ∧ d.showable = true ∧ d.depth ≤ 60 ∧ d.shown.length ≤ sizeLine ∧ Q (.str d.shown) H) := by
  intro pins s σ H xs us Q I r h
  obtain ⟨a, d, rfl, hd, hs, hz, hl, q⟩ := h
  obtain ⟨u, rfl, r1⟩ := vals1 r
  cases r1
  obtain ⟨as, hr⟩ := Dp.reads I d _ _ hd rfl
  refine str_of_reads (h₀ := s.heap) hr hs (PyData.noDict_hsm (dp_noDict d _ hd)) hg (by omega) (fun _ _ e => e) (fun h' u tk hk => ?_) hl
  exact ⟨.str _, H, I.kept hk, ⟨_, rfl⟩, q⟩
theorem call_str_non : CallR X (.type "str") (fun xs H Q => xs = [.non] ∧ Q (.str "None") H) := by
  intro pins s σ H xs us Q I r h
  obtain ⟨rfl, q⟩ := h
  obtain ⟨u, rfl, r1⟩ := vals1 r
  cases r1
  exact PySem.P.str_of_none ⟨.str _, H, I.tok _, ⟨_, rfl⟩, q⟩
theorem CallR.or {f : Value} {r r' : List V → Hp → VK → Prop} (h : CallR X f r) (h' : CallR X f r') : CallR X f (fun xs H Q => r xs H Q ∨ r' xs H Q) := by
  intro pins s σ H xs us Q I rx q
  rcases q with q | q
  · exact h pins s σ H xs us Q I rx q
  · exact h' pins s σ H xs us Q I rx q
/-- str of None, an int, a list or a tuple of data -/
def rStr (K : PySem.W.Frag) : List V → Hp → VK → Prop := fun xs H Q => ∃ v d, xs = [v] ∧ Dp K H v d ∧ (∀ x, v ≠ .str x) ∧ (∀ b, v ≠ .bl b) ∧ d.showable = true ∧ d.depth ≤ 60 ∧ d.shown.length ≤ sizeLine ∧ Q (.str d.shown) H
theorem call_strD (hg : X.A.guards = some []) (hu : X.A.units + 64 < cLine) : CallR X (.type "str") (rStr X.K) := by
  intro pins s σ H xs us Q I r h
  obtain ⟨v, d, rfl, hd, n1, n2, hs, hz, hl, q⟩ := h
  cases v with
  | non =>
    cases hd
    rw [PyData.shown_none] at q
    exact call_str_non pins s σ H _ us Q I r ⟨rfl, q⟩
  | bl b => exact absurd rfl (n2 b)
  | int i =>
    cases hd
    rw [PyData.shown_int] at q
    refine call_str_int pins s σ H _ us Q I r ⟨i, rfl, ?_, q⟩
    simpa [PyData.showable] using hs
  | str x => exact absurd rfl (n1 x)
  | byt b => cases hd
  | flt b => cases hd
  | ref a => exact call_str_dp hg hu pins s σ H _ us Q I r ⟨a, d, rfl, hd, hs, hz, hl, q⟩
  | ty n => cases hd
end

/-! ### first, *rest = a list -/
section
variable {prog : Program} {w : World} {A : Around} {E : Value → Shared → Prop} {s : Shared}
theorem walks_shift {I : Addr} {fp wr : List Addr} {G : Array GenState → Array GenState → Prop} {n : Nat} {P : Nat → Value → Prop} {St : Nat → Shared → Prop} (W : WalksS prog w A I fp wr G (n + 1) P St) :
    WalksS prog w A I fp wr G n (fun i => P (i + 1)) (fun i => St (i + 1)) where
  sub := W.sub
  grefl := W.grefl
  gtrans := W.gtrans
  frame := fun i s h' tk st ht hk => W.frame (i + 1) s h' tk st ht hk
  item := fun i s Q E hi st hQ => W.item (i + 1) s Q E (by omega) st hQ
  done := fun s Q E st hQ => W.done s Q E st hQ
  self := fun i s Q E st hQ => W.self (i + 1) s Q E st hQ

theorem items_star {l : Addr} {v : Value} {vs : List Value} {Q : List Value → Shared → Prop} (hh : A.handled = none) (hl : s.heap.IsList l (v :: vs).toArray) (hz : vs.length ≤ sizeLine)
    (hQ : ∀ (h' : Heap) (tk : Nat), (∀ b o, s.heap.get? b = some o → h'.get? b = some o) → Q [v, .ref h'.objs.size] { s with heap := h'.push { cls := .type "list", data := .seq vs.toArray }, toks := tk }) : wpAny (model prog w) A (unpackItems (.ref l) 2 (some 1)) Q E s := by
  have hlt : l ≠ s.heap.objs.size := by obtain ⟨o, ho, _⟩ := hl; exact Nat.ne_of_lt (Heap.lt_size ho)
  have hll : l < s.heap.objs.size := by obtain ⟨o, ho, _⟩ := hl; exact Heap.lt_size ho
  unfold unpackItems
  refine wpAny_bind ?_
  · unfold notIterableAtAll
    refine wpAny_bind (wpAny_specialOf hl.typeIs slot_list_iter.lookup ?_)
    refine wpAny_pure ?_
    simp only [Bool.false_eq_true, if_false]
    refine wpAny_bind (wpAny_holding (wpAny_pyIter_list hl ?_))
    refine wpAny_bind (wpAny_holding (PySem.W.kun_draw hlt 1 0 _ _ ⟨_, Heap.get?_push_size _ rfl, rfl, rfl⟩ (hl.push _) (by simp) fun h₁ hit₁ hs₁ => ?_))
    have hall : List.take 1 (List.drop 0 (v :: vs).toArray.toList) = [v] := rfl
    rw [hall]
    rw [if_neg (by simp)]
    have hl₁ : h₁.IsList l (v :: vs).toArray := (hl.push _).extBut hs₁.extBut hlt
    have W := walks_shift (n := vs.length) (Walks.list (prog := prog) (w := w) (A := A.in1) hh s.heap.objs.size l hlt (v :: vs).toArray).toS
    have hsz : ∀ b ∈ [s.heap.objs.size, l], b < h₁.objs.size := by
      intro b hb
      obtain ⟨o1, ho1, _⟩ := hit₁
      obtain ⟨o2, ho2, _⟩ := hl₁
      rcases List.mem_cons.mp hb with rfl | hb
      · exact Heap.lt_size ho1
      · rw [List.mem_singleton.mp hb]
        exact Heap.lt_size ho2
    refine wpAny_bind (wpAny_holding (wpAny_collect_iter (T := "list_iterator") (Or.inr (Or.inr (Or.inl rfl))) W (fun i s st => ?_) (show _ ∧ _ from ⟨hit₁, hl₁⟩) hsz (by simp) (fun s' acc hm hacc => ?_) hz))
    · obtain ⟨o, ho, hc, _⟩ := st.1
      exact ⟨o, ho, hc⟩
    have ea : acc.toList = vs := by
      obtain ⟨h1, h2⟩ := hacc
      refine List.ext_getElem? fun i => ?_
      by_cases hi : i < vs.length
      · have h3 : acc[i]? = some acc[i] := by simp [h1, hi]
        have h4 := h2 i _ h3
        have h5 : (v :: vs)[i + 1]? = some acc[i] := by simpa using h4
        rw [List.getElem?_cons_succ] at h5
        rw [h5]
        simpa using h3
      · have h3 : acc.toList.length = vs.length := by
          rw [Array.length_toList]
          exact h1
        rw [List.getElem?_eq_none (by omega), List.getElem?_eq_none (by omega)]
    rw [ea]
    rw [if_neg (by simp)]
    have h6 : vs.length - (2 - 1 - 1) = vs.length := by omega
    simp only [h6, List.take_length, List.drop_length, List.append_nil]
    obtain ⟨hp, gs, dr, tk, os⟩ := s'
    have e1 : gs = s.gens := hm.gens
    have e2 : dr = s.drawn := hm.drawn
    have e3 : os = s.os := hm.os
    subst e1 e2 e3
    refine wpAny_bind (wpAny_newList ?_ hz)
    refine wpAny_pure ?_
    refine hQ hp tk fun b o e => ?_
    have hb : b ≠ s.heap.objs.size := Nat.ne_of_lt (Heap.lt_size e)
    exact hm.heap b o (by simpa using hb) (hs₁.extBut b o hb (Heap.get?_push_of_some _ e))
end
/-- first, *rest = l -/
def gStar (K : PySem.W.Frag) (t : TGs) : TG := fun v σ H Q => ∃ a x xs, v = .ref a ∧ SqL K H a (x :: xs) ∧ ∀ p, H p = none → t [x, .ref p] σ (upd H p (.lst xs)) Q
section
variable {X : Cx} {pos : Pos}
theorem pg_star {es : List Expr} {k : Nat} {t : TGs} (hc : X.calm = true) (h : PGs X es t)
    (hn : (assignEach es X.env).length = 2 := by rfl) (hst : (assignEach es X.env).findIdx? (·.1) = some 1 := by rfl) : PG X (.Tuple es k pos) (gStar X.K t) := by
  refine ⟨fun pins s σ H v u Q I r hw => ?_⟩
  obtain ⟨a, x, xs, e1, hq, hw⟩ := hw
  subst e1
  cases r
  obtain ⟨its, rv, pl, hz⟩ := I.list hq
  cases rv with
  | @cons _ vx _ vr rx rr =>
  rw [PyProof.Rows.assign_Tuple]
  refine wpAny_bind (wpAny_standAt ?_)
  unfold unpack
  rw [hn, hst]
  have hz2 : vr.length ≤ sizeLine := by
    have e1 : xs.length = vr.length := rr.length
    have hz3 : xs.length + 1 ≤ sizeLine := by simpa using hz
    omega
  refine wpAny_bind (wpAny_holding (items_star (I.ok.hd hc) pl.isList hz2 fun h' tk hk => ?_))
  have I1 : Inv X pins σ H { s with heap := h', toks := tk } := I.kept hk
  have hf : H h'.objs.size = none := I1.hok.fresh (Nat.le_refl _)
  have I2 : Inv X pins σ (upd H h'.objs.size (.lst xs)) { s with heap := h'.push { cls := .type "list", data := .seq vr.toArray }, toks := tk } :=
    I1.laid (fun b u e => Heap.get?_push_of_some _ e) (Nat.le_refl _) ⟨by rw [rr.length]; exact hz2, vr, 0, rr, Heap.get?_push_size _ rfl⟩
  exact h.run pins _ σ _ [x, .ref h'.objs.size] _ Q I2 (.cons rx (.cons rfl .nil)) (hw _ hf)
end
end XB

set_option maxRecDepth 100000
set_option maxHeartbeats 4000000
/-! ## min(a list of objects, key=a bound method that tells (a bool, an int, an int)) -/
namespace XB
open PySem PySem.Spec PyProof.Rows L2
abbrev KT : Type := Bool × Int × Int
def kV3 (k : KT) : List V := [.bl k.1, .int k.2.1, .int k.2.2]
def kD3 (k : KT) : PyData := .tuple [.bool k.1, .int k.2.1, .int k.2.2]
def kLt (a b : KT) : Bool := (!a.1 && b.1) || (!(!b.1 && a.1) && (decide (a.2.1 < b.2.1) || (!decide (b.2.1 < a.2.1) && decide (a.2.2 < b.2.2))))
theorem kLt_eq (a b : KT) : PySem.W.dataLt (kD3 a) (kD3 b) = kLt a b := by
  obtain ⟨a1, a2, a3⟩ := a
  obtain ⟨b1, b2, b3⟩ := b
  cases a1 <;> cases b1 <;> simp [PySem.W.dataLt, kD3, PySem.W.keyToks, PySem.W.keyToksAll, kLt, PyProof.Rows.lexLt, itemOrd, itemLt]

theorem relV_bool {v : V} {b : Bool} (r : RelV v (.bool b)) : v = .bl b := by
  cases v <;> simp [L2.RelV] at r
  rw [r]
theorem relV_int {v : V} {i : Int} {t : Tok} (r : RelV v (.int i t)) : v = .int i := by
  cases v <;> simp [L2.RelV] at r
  rw [r]
/-- a tuple of a key at p -/
def KAt (h : Heap) (p : Addr) (k : KT) : Prop := ∃ t u, IsTup h p #[.bool k.1, .int k.2.1 t, .int k.2.2 u]
theorem KAt.of {P : Program} {w : World} {H : Hp} {h : Heap} {p : Addr} {k : KT} (x : ObjOk P w H h p (.tup (kV3 k))) : KAt h p k := by
  obtain ⟨_, its, rv, ht⟩ := x
  cases rv with
  | cons r1 rv =>
    cases rv with
    | cons r2 rv =>
      cases rv with
      | cons r3 rv =>
        cases rv
        cases r1
        obtain ⟨t, rfl⟩ := r2
        obtain ⟨u, rfl⟩ := r3
        exact ⟨t, u, ht⟩
theorem KAt.back {P : Program} {w : World} {H : Hp} {h : Heap} {p : Addr} {k : KT} {xs : List V} (y : KAt h p k) (x : ObjOk P w H h p (.tup xs)) : xs = kV3 k := by
  obtain ⟨_, its, rv, o1, h1, _, n1, d1⟩ := x
  obtain ⟨t, u, o2, h2, _, n2, d2⟩ := y
  rw [h1] at h2
  rw [← Option.some.inj h2, d1] at d2
  injection d2 with d3 _
  have d4 : its = [.bool k.1, .int k.2.1 t, .int k.2.2 u] := by simpa using congrArg Array.toList d3
  subst d4
  cases rv with
  | @cons a1 _ _ _ r1 rv =>
    cases rv with
    | @cons a2 _ _ _ r2 rv =>
      cases rv with
      | @cons a3 _ _ _ r3 rv =>
        cases rv
        rw [relV_bool r1, relV_int r2, relV_int r3] <;> rfl
theorem KAt.reads {h : Heap} {p : Addr} {k : KT} (x : KAt h p k) : ∃ as, Reads h (.ref p) (kD3 k) as := by
  obtain ⟨t, u, o, ho, hc, n, hd⟩ := x
  exact ⟨_, Reads.tuple ho hc hd (ReadsAll.cons (Reads.bool _) (ReadsAll.cons (Reads.int _ t) (ReadsAll.cons (Reads.int _ u) ReadsAll.nil)))⟩

section
variable {X : Cx} {pins : List (Addr × Obj)} {σ : L2.St} {H : Hp} {s : Shared} {S : Addr} {o : Obj} {u : HO}
/-- an untracked thing of ours is held as it is for a while -/
theorem inv_hold (I : Inv X pins σ H s) (f : FpOk X pins H S) (e : s.heap.get? S = some o) : Inv X pins σ (upd H S (.frz o (.own S))) s := by
  have ne : ∀ b x, H b = some x → b ≠ S := fun b x q z => by
    rw [z, f.1] at q
    cases q
  have hok : HOk X.prog X.w (upd H S (.frz o (.own S))) s.heap := fun b x q => by
    by_cases hb : b = S
    · subst hb
      rw [upd_same] at q
      cases q
      exact ⟨e, o, e⟩
    · rw [upd_ne hb] at q
      exact (I.hok b x q).stay (fun _ _ _ z => z) (fun c z => by rw [upd_ne (ne c _ z)]; exact z) fun c xs z => by rw [upd_ne (ne c _ z)]; exact z
  have k := f.2.2.2
  refine I.step (h' := s.heap) (g' := s.gens) (t' := s.toks) (d' := s.drawn) (ch := [S]) (fun b hb => ?_) (fun b x _ _ _ z _ => z) (fun b x _ _ _ z _ => ⟨x.slots, z⟩) (fun b x hb _ z => ?_) (fun b x _ z => ⟨x, z⟩)
    (fun b xs z => by rw [upd_ne (ne b _ z)]; exact z) (fun b x xs z => by rw [upd_ne (ne b _ z)]; exact z) (fun b ps z => ⟨#[], by rw [upd_ne (ne b _ z), z]; simp⟩) (fun m z => z) hok I.bare
  · rw [List.mem_singleton.mp hb]
    exact ⟨k.1, f.2.1, k.2.1, k.2.2⟩
  · rw [upd_ne (by simpa using hb)]
    exact z
/-- .. and let go -/
theorem inv_drop {H0 H1 : Hp} {s0 : Shared} (I0 : Inv X pins σ H0 s0) (n0 : H0 S = none) (I : Inv X pins σ H s) (e : H S = some (.frz o (.own S))) (n1 : H1 S = none) (r : ∀ b, b ≠ S → H1 b = H b) : Inv X pins σ H1 s := by
  have back : ∀ b, H b = none → H1 b = none := fun b z => by
    by_cases hb : b = S
    · rw [hb]
      exact n1
    · rw [r b hb]
      exact z
  have cv : ∀ b x, H b = some x → (∀ o u, x ≠ .frz o u) → H1 b = some x := fun b x z n => by
    by_cases hb : b = S
    · rw [hb, e] at z
      exact absurd (Option.some.inj z).symm (n _ _)
    · rw [r b hb]
      exact z
  refine ⟨I.ok, I.os, I.bare, ⟨I.base.keep, I.base.slot, fun b x q z hx => back b (I.base.free b x q z hx), I.base.there, fun b xs z => cv b _ (I.base.tups b xs z) (fun _ _ q => nomatch q), fun b x u z => ?_, fun b ps z => ?_⟩, I.loc, I.cell, back _ I.free, fun x c z => back c (I.freeC x c z), fun p hp => ?_, fun b x z => ?_, I.len⟩
  · have hb : b ≠ S := fun q => by
      have z0 := I0.base.frzs b x u z
      rw [q, n0] at z0
      cases z0
    rw [r b hb]
    exact I.base.frzs b x u z
  · obtain ⟨more, q⟩ := I.base.tbls b ps z
    exact ⟨more, cv b _ q (fun _ _ q => nomatch q)⟩
  · obtain ⟨q1, q2, q3, q4, q5⟩ := I.pin p hp
    exact ⟨q1, back _ q2, q3, q4, q5⟩
  · have hb : b ≠ S := fun q => by
      rw [q, n1] at z
      cases z
    rw [r b hb] at z
    exact (I.hok b x z).stay (fun _ _ _ q => q) (fun c q => cv c _ q (fun _ _ q => nomatch q)) fun c xs q => cv c _ q (fun _ _ q => nomatch q)
end

section
variable {X : Cx}
/-- the heap of a key's turn: H grown by tuples; the min's own list and iterator are not tracked -/
structure KJ (X : Cx) (pins : List (Addr × Obj)) (σ : L2.St) (H : Hp) (S I : Addr) (s : Shared) (H1 : Hp) : Prop where
  inv : Inv X pins σ H1 s
  same : Same H H1
  new : ∀ b o, H1 b = some o → H b = some o ∨ ∃ xs, o = .tup xs
  ns : H1 S = none
  ni : H1 I = none
  fs : FpOk X pins H S
  fi : FpOk X pins H I

theorem KJ.moved {pins : List (Addr × Obj)} {σ : L2.St} {H H1 : Hp} {S I : Addr} {s s' : Shared} (J : KJ X pins σ H S I s H1) (m : Moved [S, I] (fun a b => b = a) s s') : KJ X pins σ H S I s' H1 := by
  refine ⟨?_, J.same, J.new, J.ns, J.ni, J.fs, J.fi⟩
  obtain ⟨hp, gs, dr, tk, os⟩ := s'
  have e1 : gs = s.gens := m.gens
  have e2 : dr = s.drawn := m.drawn
  have e3 : os = s.os := m.os
  subst e1 e2 e3
  have nS : ∀ b u, H1 b = some u → b ≠ S ∧ b ≠ I := fun b u e => ⟨fun z => (by rw [z, J.ns] at e; exact nomatch e), fun z => (by rw [z, J.ni] at e; exact nomatch e)⟩
  have kp : ∀ b o, b ∉ [S, I] → s.heap.get? b = some o → hp.get? b = some o := m.heap
  refine J.inv.step (ch := [S, I]) (fun b hb => ?_) (fun b o _ _ hc e _ => kp b o hc e) (fun b o _ _ hc e _ => ⟨o.slots, kp b o hc e⟩) (fun _ _ _ _ n => n) (fun b o hc e => ⟨o, kp b o hc e⟩) (fun _ _ e => e) (fun _ _ _ e => e)
    (fun b ps e => ⟨#[], by rw [e]; simp⟩) (fun q hq => ?_) (fun b u e => ?_) J.inv.bare
  · rcases List.mem_cons.mp hb with rfl | hb
    · obtain ⟨_, h1, _, h2, h3, h4⟩ := J.fs
      exact ⟨h2, h1, h3, h4⟩
    · rw [List.mem_singleton.mp hb]
      obtain ⟨_, h1, _, h2, h3, h4⟩ := J.fi
      exact ⟨h2, h1, h3, h4⟩
  · obtain ⟨o, es, ep, ho, r⟩ := hq
    refine ⟨o, es, ep, kp _ o ?_ ho, r⟩
    have h1 := J.fs.2.1
    have h2 := J.fi.2.1
    simp [h1.symm, h2.symm]
  · refine (J.inv.hok b u e).stay (fun c v hc q => kp c v ?_ q) (fun _ q => q) fun _ _ q => q
    rcases hc with z | z
    · obtain ⟨n1, n2⟩ := nS b u e
      rw [z]
      simp [n1, n2]
    · obtain ⟨n1, n2⟩ := nS c _ z
      simp [n1, n2]

/-- what the key method tells of x, wherever the heap has grown -/
def KeyTells (sp : Sp) (H : Hp) (a : Addr) (x : V) (k : KT) : Prop := ∀ H1, Same H H1 → sp [.ref a, x] H1 (fun v H2 => ∃ p, v = .ref p ∧ H1 p = none ∧ H2 = upd H1 p (.tup (kV3 k))) E0
def rMinKey (K : PySem.W.Frag) (g : Addr) (sp : Sp) : List V → List V → Hp → VK → Prop := fun vs zs H Q => ∃ (l q a : Addr) (xs : List Addr) (kf : Nat → KT), vs = [.ref l] ∧ zs = [.ref q] ∧ SqL K H l (xs.map V.ref) ∧ H q = some (.met g a) ∧
  0 < xs.length ∧ (∀ i x, xs[i]? = some x → KeyTells sp H a (.ref x) (kf i)) ∧ ∀ x H1, xs[argBest (fun i j => kLt (kf i) (kf j)) (xs.length - 1)]? = some x → Same H H1 → Q (.ref x) H1

theorem refs_of : ∀ {xs : List Addr} {us : List Value}, Vals (xs.map V.ref) us → us = xs.map Value.ref
  | [], _, r => by cases r; rfl
  | x :: xs, _, r => by
    cases r with
    | cons r1 r2 =>
      cases r1
      rw [refs_of r2] <;> rfl

theorem call_minKey {k : Nat} {g : Addr} {fd : FuncData} {ps : List Str} {sp : Sp} (hc : X.calm = true) (F : FnOk X.prog X.w X.K X.mg X.base CX0 k g fd ps sp) (hr : Room (k + 1) X.A) (hb : Binds X.K fd ps []) :
    CallRK X (.builtin "min") [Str.ofString "key"] (rMinKey X.K g sp) := by
  intro pins s σ H vs zs us ws Q I r1 r2 h
  obtain ⟨l, q, a, xs, kf, rfl, rfl, hl, hq, hne, hkey, hQ⟩ := h
  obtain ⟨u, rfl, e1⟩ := vals1 r1
  obtain ⟨z, rfl, e2⟩ := vals1 r2
  cases e1
  cases e2
  show wpAny _ _ (call (.builtin "min") [.ref l] [(Str.ofString "key", .ref q)]) _ _ s
  obtain ⟨its, rv, pl, hz⟩ := I.list hl
  have ei := refs_of rv
  subst ei
  have hll : l < s.heap.objs.size := by obtain ⟨o, _, ho, _⟩ := pl; exact Heap.lt_size ho
  refine call_min_walkK (wpAny_pyIter_list pl.isList ?_)
  have hli : l ≠ s.heap.objs.size := Nat.ne_of_lt hll
  have sz : ((xs.map Value.ref).toArray).size = xs.length := by simp
  have W := (Walks.list (prog := X.prog) (w := X.w) (A := X.A.in1) (show X.A.in1.handled = none from I.ok.hd hc) s.heap.objs.size l hli (xs.map Value.ref).toArray).toS
  rw [sz] at W
  have I0 : Inv X pins σ H { s with heap := s.heap.push { cls := .type "list_iterator", data := .fields #[.ref l, .int 0 0] } } := I.kept (t' := s.toks) fun b o e => Heap.get?_push_of_some _ e
  have fI : FpOk X pins H s.heap.objs.size := I.fpOk (Nat.le_refl _) (I.hok.fresh (Nat.le_refl _))
  have fS : FpOk X pins H (s.heap.push { cls := .type "list_iterator", data := .fields #[.ref l, .int 0 0] }).objs.size := I0.fpOk (Nat.le_refl _) (I0.hok.fresh (Nat.le_refl _))
  have hSI : (s.heap.push { cls := .type "list_iterator", data := .fields #[.ref l, .int 0 0] }).objs.size ≠ s.heap.objs.size := by rw [Heap.size_push]; exact Nat.succ_ne_self _
  generalize hS : (s.heap.push { cls := .type "list_iterator", data := .fields #[.ref l, .int 0 0] }).objs.size = S at *
  generalize hI : s.heap.objs.size = It at *
  have fstk : ∀ {H1 : Hp} {s1 : Shared} {b : Addr}, Inv X pins σ H1 s1 → FpOk X pins H b → H1 b = none → b ∉ frs X.stack := fun {H1 s1 b} J f n hb => by
    rcases List.mem_cons.mp (J.stkSub b hb) with e | e
    · exact f.2.1 e
    · exact f.2.2.1 e
  refine ⟨It, [It, l], [It], fun a b => b = a, xs.length, _, _, fun s' => ∃ H1, KJ X pins σ H S It s' H1, fun i v s' => ∃ p, v = .ref p ∧ H p = none ∧ p ≠ S ∧ p ≠ It ∧ KAt s'.heap p (kf i), fun i j => kLt (kf i) (kf j), rfl, W, ⟨⟨_, by rw [← hI]; exact Heap.get?_push_size _ rfl, rfl, rfl⟩, pl.isList.push _⟩, ?bnd, hne,
    ⟨?keep, ?keepV, ?turn, ?cmp⟩, ⟨H, I0, Same.refl H, fun _ _ e => .inl e, fS.1, fI.1, fS, fI⟩, fun v s' hP hJ => ?_⟩
  case keep =>
    rintro s1 s2 ⟨H1, J⟩ m
    exact ⟨H1, J.moved m⟩
  case keepV =>
    rintro i v s1 s2 ⟨p, rfl, h1, h2, h3, t, u, o, ho, h4⟩ m
    exact ⟨p, rfl, h1, h2, h3, t, u, o, m.heap p o (by simp [h2, h3]) ho, h4⟩
  case turn =>
    rintro i v s1 o Q1 E1 hi hP ⟨H1, J⟩ hst hSo k
    have hx : ∃ x, xs[i]? = some x ∧ v = .ref x := by
      have hP' : (xs.map Value.ref)[i]? = some v := by simpa using hP
      rw [List.getElem?_map] at hP'
      cases e : xs[i]? with
      | none => rw [e] at hP'; cases hP'
      | some x => rw [e] at hP'; exact ⟨x, rfl, (Option.some.inj hP').symm⟩
    obtain ⟨x, hx, rfl⟩ := hx
    have fS1 : FpOk X pins H1 S := ⟨J.ns, J.fs.2⟩
    have I2 := inv_hold J.inv fS1 hSo
    have s2 : Same H (upd H1 S (.frz o (.own S))) := fun b y e => by
      rw [upd_ne (fun z => by rw [z, J.fs.1] at e; cases e)]
      exact J.same b y e
    have hq2 : (upd H1 S (.frz o (.own S))) q = some (.met g a) := s2 _ _ hq
    have hsp := hkey i x hx _ s2
    refine wpAny_call (call_met I2 hq2 (codeAny_mono (F.run X.A.in1 X.stack s1 _ ⟨[.ref a, .ref x], []⟩ [.ref a, .ref x] [.ref a, .ref x] _ _ hr.in1 I2.env0.in1 (by
      have hb2 := hb s1 [.ref a, .ref x] I2.kIn (F.len _ _ _ _ hsp)
      simpa using hb2) (.cons rfl (.cons rfl .nil)) hsp) (fun r s3 out => ?_)))
    rcases r with e | (_ | _ | _ | u)
    · exact False.elim out
    all_goals try exact False.elim out
    obtain ⟨y, H3, hos, bare, un, held, rv, p, rfl, hp, rfl⟩ := out
    cases rv
    have hpS : p ≠ S := fun z => by rw [z, upd_same] at hp; cases hp
    have hp1 : H1 p = none := by rw [upd_ne hpS] at hp; exact hp
    have I3 : Inv X pins σ _ s3 := I2.call' (ch := []) hos un held bare fun b hb => absurd hb List.not_mem_nil
    have e3 : (upd (upd H1 S (.frz o (.own S))) p (.tup (kV3 (kf i)))) S = some (.frz o (.own S)) := by rw [upd_ne hpS.symm, upd_same]
    have I4 : Inv X pins σ (upd H1 p (.tup (kV3 (kf i)))) s3 := inv_drop (H0 := H1) J.inv J.ns I3 e3 (by rw [upd_ne hpS.symm]; exact J.ns) fun b hb => by
      by_cases hbp : b = p
      · rw [hbp, upd_same, upd_same]
      · rw [upd_ne hbp, upd_ne hbp, upd_ne hb]
    have kp := KAt.of (I4.hok p _ upd_same)
    have stI : s3.heap.get? It = s1.heap.get? It := by
      obtain ⟨oi, hoi, _⟩ := hst.1
      rw [hoi]
      exact un.keep It oi hoi (by rw [upd_ne (fun z => hSI z.symm)]; exact J.ni) (fstk J.inv J.fi J.ni) List.not_mem_nil
    have hpI : p ≠ It := fun z => by
      obtain ⟨oi, hoi, hoc, _⟩ := hst.1
      obtain ⟨t, u, ot, hot, hoc2, _⟩ := kp
      rw [z, stI, hoi] at hot
      rw [← Option.some.inj hot, hoc] at hoc2
      exact absurd (Value.type.inj hoc2) (by decide)
    have J4 : KJ X pins σ H S It s3 (upd H1 p (.tup (kV3 (kf i)))) := ⟨I4, fun b y e => by
      have e1 := J.same b y e
      rw [upd_ne (fun z => by rw [z, hp1] at e1; cases e1)]
      exact e1, fun b y e => by
        by_cases hb : b = p
        · rw [hb, upd_same] at e
          exact .inr ⟨_, (Option.some.inj e).symm⟩
        · rw [upd_ne hb] at e
          exact J.new b y e, by rw [upd_ne hpS.symm]; exact J.ns, by rw [upd_ne hpI.symm]; exact J.ni, J.fs, J.fi⟩
    refine k (.ref p) s3 ⟨_, J4⟩ ⟨?_, ?_⟩ ?_ ⟨p, rfl, ?_, hpS, hpI, kp⟩ ?_
    · obtain ⟨oi, hoi, h2⟩ := hst.1
      exact ⟨oi, stI.trans hoi, h2⟩
    · obtain ⟨its2, rv2, pl2, _⟩ := I4.list (J4.same.seq hl)
      rw [refs_of rv2] at pl2
      exact pl2.isList
    · exact (I3.hok S _ e3).1
    · cases e : H p with
      | none => rfl
      | some y =>
        rw [J.same p y e] at hp1
        cases hp1
    · rintro j v' ⟨p2, rfl, n1, n2, n3, kt⟩
      refine ⟨p2, rfl, n1, n2, n3, ?_⟩
      cases e : H1 p2 with
      | none =>
        obtain ⟨t, u, ot, hot, hoc, n, hd⟩ := kt
        have e2 : (upd H1 S (.frz o (.own S))) p2 = none := by
          rw [upd_ne n2]
          exact e
        by_cases nf : p2 ∈ frs X.stack
        · obtain ⟨sl, hsl⟩ := un.slot p2 ot hot e2 nf List.not_mem_nil
          exact ⟨t, u, _, hsl, hoc, n, hd⟩
        · exact ⟨t, u, ot, un.keep p2 ot hot e2 nf List.not_mem_nil, hoc, n, hd⟩
      | some y =>
        rcases J.new p2 y e with z | ⟨ys, rfl⟩
        · rw [n1] at z
          cases z
        · have n4 : p2 ≠ p := fun z => by
            rw [z, hp1] at e
            cases e
          have ey := kt.back (J.inv.hok p2 _ e)
          rw [ey] at e
          exact KAt.of (I4.hok p2 _ (by rw [upd_ne n4]; exact e))
  case cmp =>
    rintro i j ki kj s1 Q1 E1 _ ⟨p, rfl, _, _, _, kp⟩ ⟨p2, rfl, _, _, _, kp2⟩ hq1
    obtain ⟨as, r1⟩ := kp.reads
    obtain ⟨bs, r2⟩ := kp2.reads
    rw [← kLt_eq] at hq1
    exact PySem.W.rcLt_alike _ _ _ _ _ _ _ _ r1 r2 rfl (fun z => nomatch z) (by
      have := hr.units
      show X.A.units + 1 + min 1 1 < _
      omega) _ _ _ _ hq1
  case bnd =>
    intro b hb
    rw [← hS, Heap.size_push, hI]
    rcases List.mem_cons.mp hb with rfl | hb
    · exact Nat.lt_succ_self _
    · rw [List.mem_singleton.mp hb]
      exact Nat.lt_succ_of_lt hll
  · have hP' : (xs.map Value.ref)[argBest (fun i j => kLt (kf i) (kf j)) (xs.length - 1)]? = some v := by simpa using hP
    rw [List.getElem?_map] at hP'
    cases e : xs[argBest (fun i j => kLt (kf i) (kf j)) (xs.length - 1)]? with
    | none => rw [e] at hP'; cases hP'
    | some x =>
      rw [e] at hP'
      have ev : Value.ref x = v := Option.some.inj hP'
      subst ev
      obtain ⟨H1, J⟩ := hJ
      exact ⟨.ref x, H1, J.inv, rfl, hQ x H1 e J.same⟩
end
end XB

set_option maxRecDepth 100000
set_option maxHeartbeats 4000000
/-! ## sorted(a list of objects, key=a def that tells one int attribute) -/
namespace XB
open PySem PySem.Spec PyProof.Rows L2
section
variable {X : Cx} {pins : List (Addr × Obj)} {σ : L2.St} {H : Hp} {s : Shared} {x qual name fld : Str} {params : Arguments} {scope : Scope} {kws : List (Str × V)} {f a C dx : Addr} {fd : FuncData} {fs : List (Str × V)} {i : Int} {p1 p2 p3 : Pos}
theorem attr_key (I : Inv X pins σ H s) (F : FunD X.K name qual params [.Return (some (.Attribute (.Name x p1) fld p2)) p3] scope [] kws f fd) (S : FnScope [x] [x] scope) (hb : Binds X.K fd [x] []) {A : Around} (hA : Env0 X.prog X.w X.K X.mg X.base A X.stack s H) (hr : Room 1 A)
    (hH : H a = some (.ins C dx fs)) (hC : Cls X.K C) (hN : NoAttr X.K C fld) (hl : fs.lookup fld = some (.int i)) (hd : (x == ("__debug__" : Str)) = false) (hcd2 : (x == ("__classdict__" : Str)) = false)
    (hatt : ∀ env : Env, attributeBase (.Name x p1) fld env (eval (.Name x p1) env) = eval (.Name x p1) env) :
    wpAny (model X.prog X.w) A (call (.ref f) [.ref a]) (PySem.W.KeyPure (.int i) s) (fun _ _ => False) s := by
  have bound : BindsTo s fd ⟨[.ref a], []⟩ [(x, .ref a)] := by simpa using hb s [.ref a] I.kIn rfl
  obtain ⟨oc, od, dV, kV, doc, pm, an, cdv, ct, osl, rfl, lk, hcd, _, _⟩ := F.ex
  have inK := I.kIn
  refine wpAny_call (codeAny_call_function hr.depth (inK _ _ lk) rfl S.co S.gen rfl (PySem.W.codeRec_of inK hcd) (bound _ _ _ _ (wpAny_newFunctionEnv_cells S.kind (fun y hy => ?_) fun env he s1 z => ?_)))
  · rcases S.par y.1 (by
      have := List.mem_singleton.mp hy
      rw [this]
      exact List.mem_singleton.mpr rfl) with q | q
    · exact Or.inl q
    · exact Or.inr ⟨q, PySem.W.cellsFrom_some _ _ _ (Or.inl q)⟩
  · subst he
    have lim := I.nolimit.keeps z.toInCall.keep
    have J := inv_start (CX := CX0) (E := E0) (cd := cdv) (qual := qual) S hr.hd hA (vs := [V.ref a]) (us := [Value.ref a]) rfl (.cons rfl .nil) z
    obtain ⟨h1, tk, e1, kp⟩ := z.done
    obtain ⟨m, hn, hv⟩ := J.loc
    obtain ⟨u, ru, lo⟩ := hv 0 x (.ref a) rfl rfl (by
      rcases S.par x (List.mem_singleton.mpr rfl) with q | q
      · exact Or.inl q
      · exact Or.inr (Or.inl q))
    cases ru
    obtain ⟨mA, O, r, _, _, _⟩ := ins_get J.hok hH
    obtain ⟨v, hmv, rv⟩ := RelO.some_of (v := V.int i) (o := mA fld) (by rw [← hl]; exact r fld)
    obtain ⟨t, rfl⟩ := id rv
    refine ⟨lim, codeAny_func (wpAny_execs_cons (wpAny_Return_some (attr_of (hatt _) ?_)))⟩
    have res : PySem.W.KeyPure (.int i) s (.int i t) { s1 with toks := s1.toks + 1 } := ⟨h1, tk + 1, by rw [e1], kp, Reads.int i t⟩
    have fin : ∀ {A' : Around} {Q : Value → Shared → Prop} {E : Value → Shared → Prop}, Q (.int i t) { s1 with toks := s1.toks + 1 } → wpAny (model X.prog X.w) A' (getAttr (.ref a) fld true) Q E s1 := fun q => get_map J.kIn O (hC.get fld) hC.hd hN hmv (handed_of rv) q
    rcases lo with ⟨hk, hm⟩ | ⟨hk, c, hc, hcell⟩
    · exact wpAny_Name (wpAny_loadName_local J.ok.kind hk hn hm (fin res)) hd
    · rcases hk with hk | hk
      · exact wpAny_Name (wpAny_loadName_cell J.ok.kind hk hc hcell (fin res)) hd
      · exact wpAny_Name (wpAny_loadName_free J.ok.kind hk hc hcell (fin res) hcd2) hd
/-- sorted(l, key=f), f a def that tells the attribute fld, an int *-/
def rSortKey (K : PySem.W.Frag) (f C : Addr) (fld : Str) : List V → List V → Hp → VK → Prop := fun vs zs H Q => ∃ (l : Addr) (xs : List Addr) (ks : Addr → Int), vs = [.ref l] ∧ zs = [.ref f] ∧ SqL K H l (xs.map V.ref) ∧
  (∀ x, x ∈ xs → ∃ dx fs, H x = some (.ins C dx fs) ∧ fs.lookup fld = some (.int (ks x))) ∧ ∀ p, H p = none → Q (.ref p) (upd H p (.lst ((xs.mergeSort fun a b => decide (ks a ≤ ks b)).map V.ref)))
theorem each_refs {R : Value → Addr → Prop} (h : ∀ v x, R v x → v = .ref x) : ∀ {vs : List Value} {xs : List Addr}, PySem.W.EachIs R vs xs → vs = xs.map Value.ref
  | _, _, .nil => rfl
  | _, _, .cons r t => by rw [h _ _ r, each_refs h t] <;> rfl
theorem each_self : ∀ xs : List Addr, PySem.W.EachIs (fun (v : Value) x => v = .ref x) (xs.map Value.ref) xs
  | [] => .nil
  | x :: xs => .cons rfl (each_self xs)
theorem vals_refs : ∀ xs : List Addr, Vals (xs.map V.ref) (xs.map Value.ref)
  | [] => .nil
  | _ :: xs => .cons rfl (vals_refs xs)
theorem sorted_key_args (a v : Value) : argsOk "sorted" ⟨[a], [(Str.ofString "key", v)]⟩ := by unfold argsOk; kernel_rfl
theorem sort_key_args (a v : Value) : argsOk "list.sort" ⟨[a], [(Str.ofString "key", v)]⟩ := by unfold argsOk; kernel_rfl
theorem call_sortKey {X : Cx} {x qual name fld : Str} {params : Arguments} {scope : Scope} {kws : List (Str × V)} {f C : Addr} {fd : FuncData} {p1 p2 p3 : Pos} (F : FunD X.K name qual params [.Return (some (.Attribute (.Name x p1) fld p2)) p3] scope [] kws f fd) (S : FnScope [x] [x] scope) (hb : Binds X.K fd [x] [])
    (hr : Room 3 X.A) (hC : Cls X.K C) (hN : NoAttr X.K C fld) (hd : (x == ("__debug__" : Str)) = false := by decide) (hcd2 : (x == ("__classdict__" : Str)) = false := by decide)
    (hatt : ∀ env : Env, attributeBase (.Name x p1) fld env (eval (.Name x p1) env) = eval (.Name x p1) env := by intro _; rfl) : CallRK X (.builtin "sorted") [Str.ofString "key"] (rSortKey X.K f C fld) := by
  intro pins s σ H vs zs us ws Q I r1 r2 h
  obtain ⟨l, xs, ks, rfl, rfl, hl, hx, hQ⟩ := h
  obtain ⟨u, rfl, e1⟩ := vals1 r1
  obtain ⟨z, rfl, e2⟩ := vals1 r2
  cases e1
  cases e2
  show wpAny _ _ (call (.builtin "sorted") [.ref l] [(Str.ofString "key", .ref f)]) _ _ s
  obtain ⟨its, rv, pl, hz⟩ := I.list hl
  have ei := refs_of rv
  subst ei
  have hz2 : xs.length ≤ sizeLine := by simpa using hz
  refine PySem.W.sorted_key_data (β := Addr) (R := fun v x => v = .ref x) (bs := xs) (b := false) (fun x => .int (ks x)) pl.isList (each_self xs) (fun d h1 d' h2 => ?_) (Or.inr fun d h1 => ?_) hz2 (fun x _ => ?_) (sorted_key_args _ _) (fun _ => sort_key_args _ _) (fun _ => rfl) (fun v x e hm h tk kp => ?_) (fun out c h' tk kp hn hq hlen ho => ?_)
  · obtain ⟨a, _, rfl⟩ := List.mem_map.mp h1
    obtain ⟨b, _, rfl⟩ := List.mem_map.mp h2
    rfl
  · obtain ⟨a, _, rfl⟩ := List.mem_map.mp h1
    exact ⟨fun z => (nomatch z), fun _ z => (nomatch z)⟩
  · have := hr.units
    show X.A.units + 2 + 0 < _
    omega
  · subst e
    obtain ⟨dx, fs, e1, e2⟩ := hx x hm
    have I1 : Inv X pins σ H { s with heap := h, toks := tk } := I.kept kp
    exact attr_key I1 F S hb I1.env0.in1.in1 hr.in1.in1 e1 hC hN e2 hd hcd2 hatt
  · have eo := each_refs (fun _ _ z => z) ho
    subst eo
    have es : xs.mergeSort (PySem.W.dataLe false fun x => PyData.int (ks x)) = xs.mergeSort fun a b => decide (ks a ≤ ks b) := by
      rw [PySem.W.dataLe_int]
    rw [es] at hq
    have hf := I.hok.fresh (Nat.le_succ s.heap.objs.size)
    have I1 : Inv X pins σ H { s with heap := h', toks := tk } := I.kept kp
    refine ⟨.ref (s.heap.objs.size + 1), _, ?_, rfl, hQ _ hf⟩
    have hle : ((xs.mergeSort fun a b => decide (ks a ≤ ks b)).map V.ref).length ≤ sizeLine := by simpa using hz2
    exact I.laid (t' := tk) kp (Nat.le_succ _) ⟨hle, _, c, vals_refs _, hq⟩
end
end XB

set_option maxRecDepth 100000
set_option maxHeartbeats 4000000
/-! ## a list of whatever == [], != [] -/
namespace XB
open PySem PySem.Spec PyProof.Rows L2
section
variable {X : Cx}
def rEqE (K : PySem.W.Frag) : R2 := fun x y H Q => ∃ a b xs, x = .ref a ∧ y = .ref b ∧ SqL K H a xs ∧ SqL K H b [] ∧ Q (.bl xs.isEmpty) H
def rNeE (K : PySem.W.Frag) : R2 := fun x y H Q => ∃ a b xs, x = .ref a ∧ y = .ref b ∧ SqL K H a xs ∧ SqL K H b [] ∧ Q (.bl (!xs.isEmpty)) H
theorem op_eqE (hu : X.A.units + 64 < cLine) : OpR X (compareOp .Eq) (rEqE X.K) := by
  intro pins s σ H x y v u Q I rx ry h
  obtain ⟨a, b, xs, rfl, rfl, ha, hb, q⟩ := h
  cases rx
  cases ry
  obtain ⟨its, rv, pl, _⟩ := I.list ha
  obtain ⟨its2, rv2, pl2, _⟩ := I.list hb
  cases rv2
  have hu2 : X.A.units < cLine := by omega
  cases rv with
  | nil => exact SeqAt.RcAt.lists (e := fun _ => true) pl.isList pl2.isList rfl hu2 (fun j h1 => absurd h1 (Nat.not_lt_zero _)) _ _ _ _ ⟨.bl true, H, I, rfl, q⟩
  | cons r1 r2 => exact SeqAt.RcAt.lists_lengths pl.isList pl2.isList (by simp) hu2 _ _ _ _ ⟨.bl false, H, I, rfl, q⟩
theorem op_neE (hu : X.A.units + 64 < cLine) : OpR X (compareOp .NotEq) (rNeE X.K) := by
  intro pins s σ H x y v u Q I rx ry h
  obtain ⟨a, b, xs, rfl, rfl, ha, hb, q⟩ := h
  cases rx
  cases ry
  obtain ⟨its, rv, pl, _⟩ := I.list ha
  obtain ⟨its2, rv2, pl2, _⟩ := I.list hb
  cases rv2
  have hu2 : X.A.units < cLine := by omega
  cases rv with
  | nil => exact SeqAt.RcNeAt.lists (e := fun _ => true) pl.isList pl2.isList rfl hu2 (fun j h1 => absurd h1 (Nat.not_lt_zero _)) _ _ _ _ ⟨.bl false, H, I, rfl, q⟩
  | cons r1 r2 => exact SeqAt.RcNeAt.lists_lengths pl.isList pl2.isList (by simp) hu2 _ _ _ _ ⟨.bl true, H, I, rfl, q⟩
end
end XB

set_option maxRecDepth 100000
set_option maxHeartbeats 4000000
/-! ## methods called with keywords, bound methods as values, short words -/
namespace XB
open PySem PySem.Spec PyProof.Rows L2
open C8 (Cal Mak Met CalAt pe_c pe_mk pe_mt pe_mt0 pe_gc)
theorem _root_.L2.Room.units65 {k : Nat} {A : Around} (r : Room k A) : A.units + 65 < cLine := by have := r.un; omega
/-! ### operators by short names -/
abbrev xAdd : R2 := rI0 fun i j => .int (i + j)
abbrev xSub : R2 := rI0 fun i j => .int (i - j)
abbrev xMul : R2 := rI CMul fun i j => .int (i * j)
abbrev xDiv : R2 := rI CDiv fun i j => .int (i / j)
abbrev xMod : R2 := rI (fun _ j => 0 < j) fun i j => .int (i % j)
abbrev xPow : R2 := rI CPow fun i j => .int (i ^ j.toNat)
abbrev xNeg : V → Hp → VK → Prop := rU fun i => .int (-i)
abbrev xLt : R2 := rI0 fun i j => .bl (decide (i < j))
abbrev xLe : R2 := rI0 fun i j => .bl (decide (i ≤ j))
abbrev xGt : R2 := rI0 fun i j => .bl (decide (j < i))
abbrev xGe : R2 := rI0 fun i j => .bl (decide (j ≤ i))
abbrev xIsN : R2 := fun x y H Q => y = .non ∧ Q (.bl (decide (x = .non))) H
abbrev xNotN : R2 := fun x y H Q => y = .non ∧ Q (.bl (!decide (x = .non))) H
abbrev xIsB : R2 := fun x y H Q => ∃ a b, x = .bl a ∧ y = .bl b ∧ Q (.bl (decide (a = b))) H
abbrev xNotB : R2 := fun x y H Q => ∃ a b, x = .bl a ∧ y = .bl b ∧ Q (.bl (!decide (a = b))) H
abbrev xLen (K : PySem.W.Frag) : List V → Hp → VK → Prop := fun xs H Q => ∃ p ys, xs = [.ref p] ∧ (SqL K H p ys ∨ SqT K H p ys) ∧ Q (.int ys.length) H
abbrev xList (K : PySem.W.Frag) : List V → Hp → VK → Prop := fun xs H Q => ∃ p ys, xs = [.ref p] ∧ (SqL K H p ys ∨ SqT K H p ys) ∧ ∀ l, H l = none → Q (.ref l) (upd H l (.lst ys))
abbrev xMin2 : List V → Hp → VK → Prop := fun xs H Q => ∃ i j, xs = [.int i, .int j] ∧ Q (.int (if j < i then j else i)) H
abbrev xMax2 : List V → Hp → VK → Prop := fun xs H Q => ∃ i j, xs = [.int i, .int j] ∧ Q (.int (if j > i then j else i)) H
abbrev xAbs : List V → Hp → VK → Prop := fun xs H Q => ∃ i, xs = [.int i] ∧ Q (.int (if i < 0 then -i else i)) H

/-! ### a starred target -/
theorem pgs_star {X : Cx} {e : Expr} {p : Pos} {es : List Expr} {t : TG} {u : TGs} (h1 : PG X e t) (h2 : PGs X es u)
    (hs : (assignEach (.Starred e p :: es) X.env).map (·.2) = assign e X.env :: (assignEach es X.env).map (·.2) := by rfl) : PGs X (.Starred e p :: es) (gCons t u) := by
  refine ⟨fun pins s σ H vs us Q I r h => ?_⟩
  obtain ⟨v, vr, rfl, h⟩ := h
  cases r with
  | cons r rr =>
    rw [hs]
    exact assignInOrder_cons (thn (h1.run pins s σ H _ _ _ I r h) fun _ s1 ⟨σ1, H1, I1, q1⟩ => h2.run pins s1 σ1 H1 _ _ Q I1 rr q1)
/-! ### o.m as a value -/
def tBnd (C : Addr) (m : Str) (g : Addr) (to : TE) : TE := fun σ H Q => to σ H fun x H1 => ∃ a dx fs, x = .ref a ∧ H1 a = some (.ins C dx fs) ∧ fs.lookup m = none ∧ ∀ p, H1 p = none → Q (.ref p) (upd H1 p (.met g a))
section
variable {X : Cx} {o : Expr} {m : Str} {pos apos : Pos} {C g : Addr} {to : TE}
theorem pe_bnd (c : Cls X.K C) (k : BMeth X.K C m g) (ho : PE X o to) (hb : attributeBase o m X.env (eval o X.env) = eval o X.env := by rfl) : PE X (.Attribute o m pos) (tBnd C m g to) := by
  refine ⟨fun pins s σ H Q I h => ?_⟩
  refine attr_of hb (thn (ho.run pins s σ H _ I h) fun u s1 ⟨x, H1, I1, rx, a, dx, fs, ex, ea, l, q⟩ => ?_)
  subst ex
  exact op_getbound I1 ea c k l rx q
end

/-! ### a method called with keywords alone -/
def tMethK (C : Addr) (m : Str) (n : Nat) (sp : Sp) (gV : List V → List V → List V) (E : XK) (ta : TE) (tk : TA) : TE := fun σ H Q => ta σ H fun x H1 => ∃ a dx fs, x = .ref a ∧ H1 a = some (.ins C dx fs) ∧ fs.lookup m = none ∧
  tk σ H1 fun zs H2 => zs.length = n ∧ sp (gV [x] zs) H2 Q E
structure KMet (P : Program) (w : World) (K : PySem.W.Frag) (mg : Str → Option Value) (base : Heap) (k : Nat) (C : Addr) (m : Str) (ks : List Str) (sp : Sp) (gV : List V → List V → List V) : Prop where
  ex : ∃ (f : Addr) (fd : FuncData) (ps : List Str) (g : List Value → List Value → List Value), Cls K C ∧ Meth K C m f ∧ FnOk P w K mg base CX0 k f fd ps sp ∧ KBn K fd ps 1 ks g gV
structure KMak (P : Program) (w : World) (K : PySem.W.Frag) (mg : Str → Option Value) (base : Heap) (k : Nat) (x : Str) (C : Addr) (n : Nat) (ks : List Str) (sp : Sp) (gV : List V → List V → List V) : Prop where
  ex : ∃ (f : Addr) (fd : FuncData) (ps : List Str) (g : List Value → List Value → List Value), Mk K C f ∧ FnOk P w K mg base CX0 k f fd ps sp ∧ mg x = some (.ref C) ∧ KBn K fd ps (n + 1) ks g gV
section
variable {X : Cx} {k j n : Nat} {C : Addr} {x m : Str} {sp : Sp} {ks : List Str} {dvs : List V} {p pos apos : Pos} {e o : Expr} {es : List Expr} {kws : List Keyword} {ta : TE} {t tk : TA} {gV : List V → List V → List V}
theorem pe_mtK {pl : Sem Bool} (c : KMet X.prog X.w X.K X.mg X.base k C m ks sp gV) (hr : Room j X.A) (hk : k ≤ j) (he : PE X o ta) (hkw : PK X kws tk)
    (hall : (backToKw pos (keywordEach kws X.env)).all (·.1.isSome) = true := by rfl) (hks : (backToKw pos (keywordEach kws X.env)).filterMap (·.1) = ks := by rfl)
    (hpl : ((backTo pos (starEach [] X.env)).any (·.1) || (backToKw pos (keywordEach kws X.env)).any (·.1.isNone)) = false := by rfl)
    (ht : eval (.Call (.Attribute o m apos) [] kws pos) X.env = (do
      let ov ← eval o X.env
      standAt apos.atName
      let (f, first) ← holding [ov] (getMethod ov m pl)
      callWith pos f first (backTo pos (starEach [] X.env)) (backToKw pos (keywordEach kws X.env))) := by rfl) :
    PE X (.Call (.Attribute o m apos) [] kws pos) (tMethK C m ks.length sp gV E0 ta tk) := by
  obtain ⟨f, fd, ps, g, hc, hm, F, hb⟩ := c.ex
  refine ⟨fun pins s σ H Q I h => ?_⟩
  refine PySem.W.methodCall_KW (pl := pl) (thn (he.run pins s σ H _ I h) fun u s1 ⟨y, H1, I1, ry, a, dx, fs, ex, ea, l, q⟩ => ?_) ht
  subst ex
  cases ry
  refine getmeth_ok I1 ea hc hm l ?_
  refine PySem.W.callWith_KW0 (first := [.ref a]) (h₀ := X.base) I.ok.mod.kin hm.kp hall ?_ hpl
  refine thn (hkw.run pos pins s1 σ H1 _ I1 q) fun ws s2 ⟨zs, H2, I2, rz, l2, q2⟩ => ⟨I2.kIn, ?_⟩
  rw [hks]
  exact run_fnN (us := [.ref a]) (vs := [.ref a]) F (hr.mono hk) hb pass0 I2 (.cons rfl .nil) rz rfl l2 q2
theorem pe_mkK0 (c : KMak X.prog X.w X.K X.mg X.base k x C 0 ks sp gV) (hr : Room j X.A) (hk : k + 1 ≤ j) (hg : Gl X x) (hkw : PK X kws tk)
    (hall : (backToKw pos (keywordEach kws X.env)).all (·.1.isSome) = true := by rfl) (hks : (backToKw pos (keywordEach kws X.env)).filterMap (·.1) = ks := by rfl) (hdb : (x == ("__debug__" : Str)) = false := by decide)
    (hpl : ((backTo pos (starEach [] X.env)).any (·.1) || (backToKw pos (keywordEach kws X.env)).any (·.1.isNone)) = false := by rfl) :
    PE X (.Call (.Name x p) [] kws pos) (tMakeK C 0 ks.length sp gV E0 tNil tk) := by
  obtain ⟨f, fd, ps, g, M, F, hm, hb⟩ := c.ex
  exact pe_makeK0 M F (hr.mono hk) hg hm hb pass0 hkw hall hks hdb hpl
theorem pe_mkK (c : KMak X.prog X.w X.K X.mg X.base k x C n ks sp gV) (hr : Room j X.A) (hk : k + 1 ≤ j) (hg : Gl X x) (ha : PA X (e :: es) t) (hkw : PK X kws tk)
    (hall : (backToKw pos (keywordEach kws X.env)).all (·.1.isSome) = true := by rfl) (hks : (backToKw pos (keywordEach kws X.env)).filterMap (·.1) = ks := by rfl) (hdb : (x == ("__debug__" : Str)) = false := by decide)
    (he : starEach (e :: es) X.env = (false, eval e X.env) :: starEach es X.env := by rfl) (hpl : ((backTo pos (starEach (e :: es) X.env)).any (·.1) || (backToKw pos (keywordEach kws X.env)).any (·.1.isNone)) = false := by rfl) :
    PE X (.Call (.Name x p) (e :: es) kws pos) (tMakeK C n ks.length sp gV E0 t tk) := by
  obtain ⟨f, fd, ps, g, M, F, hm, hb⟩ := c.ex
  exact pe_makeK M F (hr.mono hk) hg hm hb pass0 ha hkw hall hks hdb he hpl
theorem pe_mk0 (c : Mak X.prog X.w X.K X.mg X.base k x C sp dvs) (hr : Room j X.A) (hk : k + 1 ≤ j) (hg : Gl X x) (hdb : (x == ("__debug__" : Str)) = false := by decide) : PE X (.Call (.Name x p) [] [] pos) (tMake C sp dvs E0 tNil) := by
  obtain ⟨f, fd, ps, ds, M, F, hm, b, d⟩ := c.ex
  exact pe_make0 M F (hr.mono hk) hg hm b d pass0 hdb
theorem pe_c0 (c : Cal X.prog X.w X.K X.mg X.base k x sp dvs) (hr : Room j X.A) (hk : k ≤ j) (hg : Gl X x) (hdb : (x == ("__debug__" : Str)) = false := by decide) : PE X (.Call (.Name x p) [] [] pos) (tCall sp dvs E0 tNil) := by
  obtain ⟨f, fd, ps, ds, F, hm, kp, b, d⟩ := c.ex
  exact pe_call0 F (hr.mono hk) hg hm kp b d pass0 hdb
/-- a def that knows that nothing is being shown -/
structure CalG (P : Program) (w : World) (K : PySem.W.Frag) (mg : Str → Option Value) (base : Heap) (k : Nat) (x : Str) (sp : Sp) : Prop where
  ex : ∃ (f : Addr) (fd : FuncData) (ps : List Str), FnG P w K mg base CX0 k f fd ps sp ∧ mg x = some (.ref f) ∧ PySem.W.keepIn K (.ref f) = true ∧ Binds K fd ps []
theorem FnG.mono {P : Program} {w : World} {K : PySem.W.Frag} {mg : Str → Option Value} {base : Heap} {CX : CXT} {j k : Nat} {f : Addr} {fd : FuncData} {ps : List Str} {sp : Sp} (F : FnG P w K mg base CX j f fd ps sp) (h : j ≤ k) : FnG P w K mg base CX k f fd ps sp :=
  ⟨F.len, fun A outer s H args us vs Q E hr => F.run A outer s H args us vs Q E (hr.mono h)⟩
theorem pe_cG (c : CalG X.prog X.w X.K X.mg X.base k x sp) (hr : Room j X.A) (hk : k ≤ j) (hgd : X.A.guards = some []) (hg : Gl X x) (ha : PA X (e :: es) t)
    (hdb : (x == ("__debug__" : Str)) = false := by decide) (he : starEach (e :: es) X.env = (false, eval e X.env) :: starEach es X.env := by rfl) (hpl : (backTo pos (starEach es X.env)).any (·.1) = false := by rfl) :
    PE X (.Call (.Name x p) (e :: es) [] pos) (tCall sp [] E0 t) := by
  obtain ⟨f, fd, ps, F, hm, kp, b⟩ := c.ex
  exact pe_callG F (hr.mono hk) hgd hg hm kp b .nil pass0 ha hdb he hpl
theorem pe_cG0 (c : CalG X.prog X.w X.K X.mg X.base k x sp) (hr : Room j X.A) (hk : k ≤ j) (hgd : X.A.guards = some []) (hg : Gl X x) (hdb : (x == ("__debug__" : Str)) = false := by decide) : PE X (.Call (.Name x p) [] [] pos) (tCall sp [] E0 tNil) := by
  obtain ⟨f, fd, ps, F, hm, kp, b⟩ := c.ex
  exact pe_callG0 F (hr.mono hk) hgd hg hm kp b .nil pass0 hdb
end
/-- what isinstance asks of an own class -/
structure InsOk (K : PySem.W.Frag) (C : Addr) : Prop where
  cl : Cls K C
  ha : PySem.W.findIn K (.ref C) "__class__" = some (some (.builtin "object.__class__"))
  hn : PySem.W.specialIn K (.builtin "object.__class__") "__get__" = some (some (.builtin "getset_descriptor.__get__"))
  htk : PySem.W.takesIn K (.builtin "object.__class__") = some true
  hm : PySem.W.mroIn K C (.type "object") = some true
end XB

set_option maxRecDepth 100000
set_option maxHeartbeats 4000000
/-! ## what is never reached; targets that are attributes -/
namespace XB
open PySem PySem.Spec PyProof.Rows L2
def tNeverE : TE := fun _ _ _ => False
theorem pe_never {X : Cx} {e : Expr} : PE X e tNeverE := ⟨fun _ _ _ _ _ _ h => h.elim⟩
/-- o.f = .., o.f among several targets -/
def gFld (K : PySem.W.Frag) (to : TE) (f : Str) : TG := fun v σ H Q => to σ H fun x H2 => ∃ a C dx fs, x = .ref a ∧ H2 a = some (.ins C dx fs) ∧ Cls K C ∧ NoAttr K C f ∧ fs.length < 1000 ∧ Q σ (upd H2 a (.ins C dx (putF f v fs)))
theorem pg_fld {X : Cx} {o : Expr} {to : TE} {f : Str} {pos : Pos} (ho : PE X o to) : PG X (.Attribute o f pos) (gFld X.K to f) := by
  refine ⟨fun pins s σ H v u Q I r h => ?_⟩
  rw [assign_Attribute]
  refine wpAny_bind (wpAny_holding (thn (ho.run pins s σ H _ I h) fun ov s1 ⟨x, H1, I1, r1, a, C, dx, fs, ex, ea, c, n, l, q1⟩ => ?_))
  subst ex
  obtain rfl : ov = Value.ref a := r1
  refine wpAny_bind (wpAny_standAt (wpAny_bind (wpAny_holding ?_)))
  exact setattr_ok I1 ea c n l r fun s3 I3 => wpAny_release ⟨σ, _, I3, q1⟩
end XB

set_option maxRecDepth 100000
set_option maxHeartbeats 4000000
/-! ## set(a list of whole numbers); either of two readings -/
namespace XB
open PySem PySem.Spec PyProof.Rows L2
section
variable {P : Program} {w : World} {A : Around} {E : Value → Shared → Prop} {s : Shared}
/-- an empty set, as it is made -/
def freshSet (w : World) : Obj := { cls := .type "set", dict := none, data := .set #[] 0 (.fresh 0 0 (!w.params.followText "set-order")) }
theorem set_of_list {l : Addr} {its : Array Value} (ns : List Int) {Q : Value → Shared → Prop} (nh : A.handled = none) (lst : s.heap.IsList l its) (hints : IntsAre its.toList ns) (few : ns.length + 1 < scanBound)
    (k : ∀ (h' : Heap) (tk c : Nat), SetR w h' s.heap.objs.size (fun j => decide (j ∈ ns)) c → c ≤ ns.length → (∀ b o, s.heap.get? b = some o → h'.get? b = some o) → Q (.ref s.heap.objs.size) { s with heap := h', toks := tk }) :
    wpAny (model P w) A (call (.type "set") [.ref l]) Q E s := by
  have size : its.size = ns.length := (Array.length_toList (xs := its)) ▸ IntsAre.length hints
  obtain ⟨_, _, mro⟩ := F.called_set.mro
  have made := F.called_set.made
  have sub := F.called_set.sub
  refine wpAny_call (codeAny_of_tree ?_)
  show wpAny _ _ (callAny (.type "set") _) _ _ _
  refine wpAny_pure ⟨Code.quiet_builtin _ (by decide +kernel), codeAny_builtin F.entry_type_call ?_⟩
  rw [Around.under_plain (weight_type_call_type "set" [.ref l] []) rfl]
  have nt := F.called_set.notType; have cc := F.called_set.canCreate; have tc := F.typeCall_set_1 (.ref l)
  repeat (any_goals (first | assumption | wp_step))
  refine codeAny_mono (L2.code_set_led1 (.ref l) (E := E) (Q₁ := fun x s₁ => x = .ref s.heap.objs.size ∧ s₁ = { s with heap := s.heap.push (freshSet w) }) ⟨rfl, rfl⟩) fun r s₁ hr => ?_
  cases r with
  | error e => exact hr
  | ok fl =>
    cases fl with
    | ret x =>
      obtain ⟨rfl, rfl⟩ := hr
      have at0 : (s.heap.push (freshSet w)).get? s.heap.objs.size = some (freshSet w) := Heap.get?_push_size _ rfl
      have ty : Shared.TypeIs { s with heap := s.heap.push (freshSet w) } (.ref s.heap.objs.size) "set" := ⟨_, at0, rfl⟩
      have il := F.called_set.init.lookup; have ib := F.called_set.init.bind (.ref s.heap.objs.size)
      repeat (any_goals (first | assumption | wp_step))
      refine codeAny_mono (codeAny_call_builtin (R := wants (fun r s₂ => r = .none ∧ ∃ h' tk c, s₂ = { s with heap := h', toks := tk } ∧ SetR w h' s.heap.objs.size (fun j => decide (j ∈ ns)) c ∧ c ≤ ns.length ∧ ∀ b o, s.heap.get? b = some o → h'.get? b = some o) E) F.called_set.init.plain F.entry_set_init (check_set_init_1 ty ?_)) fun r₂ s₂ hr₂ => ?_
      · obtain ⟨ol, lo, cl, nl, dl⟩ := lst
        obtain ⟨oc, od, oo, os⟩ := ol
        simp only at cl dl; subst cl; subst dl
        have lo1 : (s.heap.push (freshSet w)).get? l = some { cls := .type "list", dict := od, data := .seq its nl, slots := os } := Heap.get?_push_of_some _ lo
        have s1 := F.sub_list_set; have s2 := F.sub_list_frozenset
        have nd : (Value.type "list" == Value.type "dict") = false := by decide
        have l1 : (s.heap.push (freshSet w)).IsList l its := ⟨_, lo1, rfl, nl, rfl⟩
        unfold Builtin.«set.__init__» noKeywords Builtin.Frozenset.updateFrom
        generalize eI : pyIter = PI
        wp_walk
        subst eI
        refine wpAny_pyIter_list l1 ?_
        refine wpAny_bind (wpAny_runValue ?_)
        have lS : l < s.heap.objs.size := Heap.lt_size lo
        have nh3 : A.in1.in1.in1.handled = none := by simp [nh]
        have nI : l ≠ (s.heap.push (freshSet w)).objs.size := by rw [Heap.size_push]; exact Nat.ne_of_lt (Nat.lt_succ_of_lt lS)
        have nS : s.heap.objs.size ∉ [(s.heap.push (freshSet w)).objs.size, l] := by
          rw [Heap.size_push]
          simp only [List.mem_cons, List.not_mem_nil, or_false, not_or]
          exact ⟨Nat.ne_of_lt (Nat.lt_succ_self _), Nat.ne_of_gt lS⟩
        have val : ∀ (i : Nat) (v : Value), its[i]? = some v → ∃ k t, ns[i]? = some k ∧ v = .int k t := fun i v hv => by
          have hi : i < ns.length := size ▸ (Array.getElem?_eq_some_iff.mp hv).1
          obtain ⟨t, e⟩ := PyProof.Rows.IntsAre.int_at hints i v (by rw [Array.getElem?_toList]; exact hv)
          exact ⟨ns[i], t, List.getElem?_eq_getElem hi, by rw [e, List.getD_eq_getElem?_getD, List.getElem?_eq_getElem hi] <;> rfl⟩
        refine L2.set_update_ints ((Walks.list nh3 _ l nI its).toS) s.heap.objs.size nS ns size few val (its.size - 0) 0 _ (by omega) (Nat.zero_le _) ⟨⟨_, Heap.get?_push_size _ rfl, rfl, rfl⟩, (l1.push _)⟩ ⟨0, Nat.le_refl 0, L2.setR_new_at (Heap.get?_push_of_some _ at0)⟩ ?_
        intro s' c' mv c1 R'
        obtain ⟨h', g', d', tk', o'⟩ := s'
        have e1 : g' = s.gens := mv.gens
        have e2 : d' = s.drawn := mv.drawn
        have e3 : o' = s.os := mv.os
        subst e1 e2 e3
        show wpAny _ _ _ _ _ _
        refine wpAny_pure ?_
        show wpAny _ _ (ret Value.none) _ _ _
        refine wpAny_pure ⟨rfl, h', tk', c', rfl, R', size ▸ c1, fun b o e => ?_⟩
        have b0 : b < s.heap.objs.size := Heap.lt_size e
        refine mv.heap b o ?_ (Heap.get?_push_of_some _ (Heap.get?_push_of_some _ e))
        simp only [List.mem_cons, List.not_mem_nil, or_false, not_or, Heap.size_push]
        exact ⟨Nat.ne_of_lt b0, Nat.ne_of_lt (Nat.lt_succ_of_lt b0)⟩
      · cases r₂ with
        | error e => exact hr₂
        | ok fl₂ =>
          cases fl₂ with
          | ret r =>
            obtain ⟨rfl, h', tk, c', rfl, R', c1, kp⟩ := hr₂
            repeat (any_goals (first | assumption | wp_step))
            exact k _ _ _ R' c1 kp
          | _ => exact hr₂.elim
    | _ => exact hr.elim
end
end XB

set_option maxRecDepth 100000
set_option maxHeartbeats 4000000
/-! ## sorted(set(l)), l a list of whole numbers; either of two readings -/
namespace XB
open PySem PySem.Spec PyProof.Rows L2
theorem set_count {w : World} {h : Heap} {a : Addr} {S : Int → Bool} {n : Nat} (R : SetR w h a S n) {all : List Int} (hs : ∀ k, S k = true → k ∈ all) : n ≤ all.length := by
  obtain ⟨o, es, ep, t, _, _, _, _, nd, hS, _, _, hn, _⟩ := R
  have := List.Nodup.length_le_of_subset nd (l₂ := all) fun k hk => hs k ((hS k).mpr hk)
  rw [List.length_map, Array.length_toList] at this
  omega
section
variable {X : Cx}
/-- set(l) -/
def rSetL (K : PySem.W.Frag) (w : World) : List V → Hp → VK → Prop := fun vs H Q => ∃ (a : Addr) (ns : List Int), vs = [V.ref a] ∧ SqL K H a (ns.map V.int) ∧ ns.length ≤ 4000 ∧
  ∀ (p : Addr) (c : Nat), (∀ all : List Int, (∀ k ∈ ns, k ∈ all) → c ≤ all.length) → H p = none → Q (.ref p) (upd H p (SetO w p (fun j => decide (j ∈ ns)) c))
theorem intsAre_of : ∀ {ns : List Int} {us : List Value}, Vals (ns.map V.int) us → IntsAre us ns
  | [], _, .nil => .nil
  | n :: ns, _, .cons r t => by
    obtain ⟨k, rfl⟩ := r
    exact .cons n k (intsAre_of t)
theorem call_setL (hc : X.calm = true) : CallR X (.type "set") (rSetL X.K X.w) := by
  intro pins s σ H vs us Q I r h
  obtain ⟨a, ns, rfl, hs, hl, q⟩ := h
  rw [Vals.ref1 r]
  obtain ⟨its, rv, pl, hz⟩ := I.list hs
  refine set_of_list ns (I.ok.hd hc) pl.isList (by simpa using intsAre_of rv) (by unfold scanBound; omega) fun h' tk c R c1 kp => ?_
  have np : H s.heap.objs.size = none := I.hok.fresh (Nat.le_refl _)
  refine ⟨.ref s.heap.objs.size, _, (I.laid (a := s.heap.objs.size) (h' := h') (t' := tk) kp (Nat.le_refl _) (L2.setO_new R)).tok tk, rfl, q _ c (fun all ha => set_count R fun k hk => ha k (by simpa using hk)) np⟩
/-- either of two readings -/
def tOrE (t u : TE) : TE := fun σ H Q => t σ H Q ∨ u σ H Q
theorem pe_orE {e : Expr} {t u : TE} (h : PE X e t) (k : PE X e u) : PE X e (tOrE t u) := ⟨fun pins s σ H Q I q => q.elim (h.run pins s σ H Q I) (k.run pins s σ H Q I)⟩
theorem pe_less {e : Expr} {t u : TE} (h : PE X e t) (k : ∀ σ H Q, u σ H Q → t σ H Q) : PE X e u := ⟨fun pins s σ H Q I q => h.run pins s σ H Q I (k σ H Q q)⟩
def tMono (t : TE) : TE := fun σ H Q => ∃ P : VK, t σ H P ∧ ∀ v H', P v H' → Q v H'
theorem pe_mono {e : Expr} {t : TE} (h : PE X e t) : PE X e (tMono t) :=
  ⟨fun pins s σ H Q I ⟨P, q, k⟩ => thn (h.run pins s σ H P I q) fun _ _ ⟨x, H1, I1, r1, q1⟩ => ⟨x, H1, I1, r1, k _ _ q1⟩⟩
/-- sorted(set(l)) -/
def tSortSet (K : PySem.W.Frag) (te : TE) : TE := fun σ H Q => te σ H fun x H1 => ∃ (a : Addr) (ns all : List Int), x = V.ref a ∧ SqL K H1 a (ns.map V.int) ∧ ns.length ≤ 4000 ∧ (∀ k ∈ ns, k ∈ all) ∧ all.length ≤ 63 ∧
  ∀ (ms : List Int) (p : Addr) (H2 : Hp), ms.Pairwise (· < ·) → (∀ k, k ∈ ms ↔ k ∈ ns) → H1 p = none → Same H1 H2 → H2 p = some (.lst (ms.map V.int)) → Q (.ref p) H2
theorem pe_sortSet {a : Expr} {ta : TE} {p p2 q pos : Pos} (hc : X.calm = true) (hg : Gl X "sorted") (hm : X.mg "sorted" = none) (hg2 : Gl X "set") (hm2 : X.mg "set" = none) (ha : PE X a ta)
    (s1 : starEach [.Call (.Name "set" p2) [a] [] q] X.env = (false, eval (.Call (.Name "set" p2) [a] [] q) X.env) :: starEach [] X.env := by rfl) (s2 : starEach [a] X.env = (false, eval a X.env) :: starEach [] X.env := by rfl) :
    PE X (.Call (.Name "sorted" p) [.Call (.Name "set" p2) [a] [] q] [] pos) (tSortSet X.K ta) := by
  refine pe_less (pe_callB (cr_sortedSet hc) hg hm boot_sorted (pa_cons (pe_callTy (call_setL hc) hg2 hm2 boot_set (pa_cons (pe_mono ha) pa_nil s2) (by decide) (by decide) s2) pa_nil s1) (by decide) (by decide) s1) ?_
  intro σ H Q h
  refine ⟨_, h, ?_⟩
  rintro v H1 ⟨a, ns, all, rfl, hs, hz, hall, hl, k⟩
  refine ⟨a, ns, rfl, hs, hz, fun p c hcn hp => ⟨p, _, c, rfl, upd_same, by have := hcn all hall; omega, fun ms q2 hms hin _ hq => ?_⟩⟩
  refine k ms q2 _ hms (fun j => (hin j).trans (by simp)) ?_ (fun b o e => ?_) upd_same
  · by_cases e : q2 = p
    · rw [e, upd_same] at hq
      cases hq
    · rw [upd_ne e] at hq
      exact hq
  · have n1 : b ≠ p := fun z => by rw [z, hp] at e; cases e
    have e2 : upd H1 p (SetO X.w p (fun j => decide (j ∈ ns)) c) b = some o := by rw [upd_ne n1]; exact e
    have n2 : b ≠ q2 := fun z => by rw [z, hq] at e2; cases e2
    rw [upd_ne n2]
    exact e2
end
end XB

set_option maxRecDepth 100000
set_option maxHeartbeats 4000000
/-! ## sorted, min of a list of tuples (data), as they stand -/
namespace XB
open PySem PySem.Spec PyProof.Rows L2
abbrev xTuple (K : PySem.W.Frag) : List V → Hp → VK → Prop := fun xs H Q => ∃ p ys, xs = [.ref p] ∧ ((SqL K H p ys ∧ ∀ l, H l = none → Q (.ref l) (upd H l (.tup ys))) ∨ (SqT K H p ys ∧ Q (.ref p) H))
section
variable {X : Cx}
def rSortT (K : PySem.W.Frag) : List V → Hp → VK → Prop := fun vs H Q => ∃ (l : Addr) (xs : List Addr) (dk : Addr → PyData), vs = [.ref l] ∧ SqL K H l (xs.map V.ref) ∧ (∀ x ∈ xs, Dp K H (.ref x) (dk x)) ∧
  PySem.W.AllAlike (xs.map dk) ∧ PySem.W.Sortable (xs.map dk) ∧ (∀ x ∈ xs, (dk x).depth ≤ 30) ∧ ∀ p, H p = none → Q (.ref p) (upd H p (.lst ((xs.mergeSort (PySem.W.dataLe false dk)).map V.ref)))
theorem each_reads {pins : List (Addr × Obj)} {σ : L2.St} {H : Hp} {s : Shared} (I : Inv X pins σ H s) {dk : Addr → PyData} : ∀ {xs : List Addr}, (∀ x ∈ xs, Dp X.K H (.ref x) (dk x)) → PySem.W.EachIs (fun v x => ∃ as, Reads s.heap v (dk x) as) (xs.map Value.ref) xs
  | [], _ => .nil
  | x :: xs, h => .cons (by
      obtain ⟨as, r⟩ := Dp.reads I _ _ _ (h x List.mem_cons_self) rfl
      exact ⟨as, r⟩) (each_reads I fun y hy => h y (List.mem_cons_of_mem _ hy))
theorem call_sortT (hu : X.A.units + 64 < cLine) : CallR X (.builtin "sorted") (rSortT X.K) := by
  intro pins s σ H vs us Q I r h
  obtain ⟨l, xs, dk, rfl, hl, hd, ha, hs, hz0, q⟩ := h
  obtain ⟨u, rfl, e1⟩ := vals1 r
  cases e1
  obtain ⟨its, rv, pl, hz⟩ := I.list hl
  have ei := refs_of rv
  subst ei
  have hz2 : xs.length ≤ sizeLine := by simpa using hz
  refine PySem.W.sorted_data (β := Addr) (R := fun v x => v = .ref x) (enc := dk) (bs := xs) pl.isList (each_self xs) (each_reads I hd) ha hs hz2 (fun x hx => ?_) fun out hlen ho => ?_
  · have := hz0 x hx
    omega
  · have eo := each_refs (fun _ _ z => z) ho
    subst eo
    obtain ⟨e, he⟩ := sortedAll_at s.heap (xs.map Value.ref) (List.toArray ((xs.mergeSort (PySem.W.dataLe false dk)).map Value.ref))
    have hf := I.hok.fresh (Nat.le_succ s.heap.objs.size)
    refine ⟨.ref (s.heap.objs.size + 1), _, ?_, rfl, q _ hf⟩
    have hle : ((xs.mergeSort (PySem.W.dataLe false dk)).map V.ref).length ≤ sizeLine := by simpa using hz2
    exact I.laid (t' := s.toks) (fun b o hb => sortedAll_old hb) (Nat.le_succ _) ⟨hle, _, e, vals_refs _, he⟩
def rMinD (K : PySem.W.Frag) : List V → Hp → VK → Prop := fun vs H Q => ∃ (l x : Addr) (xs : List Addr) (dk : Addr → PyData), vs = [.ref l] ∧ SqL K H l ((x :: xs).map V.ref) ∧ (∀ y ∈ x :: xs, Dp K H (.ref y) (dk y)) ∧
  PySem.W.AlikeAll (dk x :: xs.map dk) ∧ PyData.depthAll (dk x :: xs.map dk) ≤ 30 ∧ ∀ y ∈ x :: xs, dk y = PySem.W.minD (dk x) (xs.map dk) → Q (.ref y) H
theorem call_minD (hc : X.calm = true) (hu : X.A.units + 64 < cLine) : CallR X (.builtin "min") (rMinD X.K) := by
  intro pins s σ H vs us Q I r h
  obtain ⟨l, x, xs, dk, rfl, hl, hd, ha, hz0, q⟩ := h
  obtain ⟨u, rfl, e1⟩ := vals1 r
  cases e1
  obtain ⟨its, rv, pl, hz⟩ := I.list hl
  have ei := refs_of rv
  subst ei
  obtain ⟨as, hr⟩ := PySem.W.each_readsAll dk (each_reads I hd)
  refine PySem.W.min_list_data (I.ok.hd hc) pl.isList (x := dk x) (xs := xs.map dk) (by simpa using hr) ha (by omega) fun i v h' tk bs hv hrd hk => ?_
  have hv2 : (((x :: xs).map Value.ref))[i]? = some v := by simpa using hv
  rw [List.getElem?_map] at hv2
  obtain ⟨y, hy, rfl⟩ := Option.map_eq_some_iff.mp hv2
  have hm := List.mem_of_getElem? hy
  obtain ⟨as2, r2⟩ := Dp.reads I _ _ _ (hd y hm) rfl
  exact ⟨.ref y, H, I.kept hk, rfl, q y hm (reads_det (fun b o e _ => hk b o e) r2 hrd).1.symm⟩
end
end XB

set_option maxRecDepth 100000
set_option maxHeartbeats 4000000
/-! XB12: an exception out of a call in a list comprehension's element goes on to the def's own wish; promises of defs that may raise. -/
namespace XB
open PySem PySem.Spec PyProof.Rows L2
/-- the block of a comprehension, with a wish about exceptions -/
abbrev blkX (X : Cx) (s : Shared) (H : Hp) (scope : Scope) (cenv : Env) (fp : List Addr) (xe : Value → Shared → Prop) : Cx := { X.blk s H scope cenv fp with xe := xe }
section
variable {X : Cx} {pins : List (Addr × Obj)} {s0 : Shared} {H0 : Hp} {scope : Scope} {cenv : Env} {fp : List Addr} {xe : Value → Shared → Prop} {E : XK}
/-- the def's own state within its block -/
theorem of_block {pins' : List (Addr × Obj)} {σ σ' : L2.St} {H : Hp} {s : Shared} (I3 : L2.Inv X pins σ H0 s0) (hfp : ∀ b ∈ fp, FpOk X pins H0 b) (I6 : L2.Inv (blkX X s0 H0 scope cenv fp xe) pins' σ' H s) : L2.Inv X pins σ H s :=
  I3.call' (ch := fp) I6.os I6.base I6.hok I6.bare fun b hb => ⟨(hfp b hb).2.2.2.1, (hfp b hb).2.1, (hfp b hb).2.2.2.2.1, (hfp b hb).2.2.2.2.2⟩
theorem up_trans3 {h1 h2 h3 h4 : Heap} {C : Addr} (u : h1.UpToSlots h2) (sb : Heap.SameBut C h2 h3) (v : h3.UpToSlots h4) : ∀ b o, b ≠ C → h1.get? b = some o → (∀ vs, o.data ≠ .fields vs) → ∃ sl, h4.get? b = some { o with slots := sl } := fun b o hb e hd => by
  obtain ⟨sl, e1⟩ := u b o e hd
  have e2 := (sb.2 b hb).trans e1
  obtain ⟨sl2, e3⟩ := v b _ e2 hd
  exact ⟨sl2, e3⟩
theorem sky_held {M : Model} {A : Around} {E₁ : Value → Shared → Prop} {env : Env} {outer : List Env} {L a : Addr} {Z : Obj → Prop} {B : Heap} {s : Shared} {Q : Unit → Shared → Prop} (hZ : HandSPX.Steady Z) (hfr : A.frames = some (env :: outer)) (hf : env.frame = some L)
    (x : Sky B (env :: outer) a Z L s.heap) (hQ : ∀ h', HandSPX.HeldZ B (env :: outer) a Z L h' → s.heap.UpToSlots h' → Q () { s with heap := h' }) : wpAny M A (noteFrame (.ref a) env) Q E₁ s := by
  rcases x with ⟨hB, hn, hl, oe, vs, he, hz, hd, h1⟩ | fl | hh
  · exact HandSPX.look_newZ hZ hfr hl hf he hB hn hd h1 hz hQ
  · exact HandSPX.looks_onZ hZ hfr hf fl hQ
  · exact HandSPX.againZ hf hh.2.2.2 (hQ s.heap hh (Heap.UpToSlots.refl _))
/-- what a call in the block lets out goes on in the def's own frame -/
theorem block_passes {σ : L2.St} (hs : X.stack = X.env :: X.outer) (hf : X.env.frame = some X.env.locals) (tk : Takes X (fun cls d _ H => E cls d H)) (I3 : L2.Inv X pins σ H0 s0) (hfp : ∀ b ∈ fp, FpOk X pins H0 b)
    (hcf : cenv.frame = X.env.frame) (hC : ∀ {H : Hp}, H cenv.locals = none → FpOk X [] H cenv.locals) (hst : cenv.locals ∉ frs X.stack) :
    Passes (L2.CX X.prog X.w) (blkX X s0 H0 scope cenv fp (notedBy (model X.prog X.w) X.A cenv (CompFails (model X.prog X.w) X.A X.xe cenv))) E := by
  intro pins' σ' H s e s' I6 c
  have IX : L2.Inv X pins σ H s := of_block I3 hfp I6
  have hfr : X.A.frames = some (X.env :: X.outer) := by rw [IX.ok.frames, hs]
  obtain ⟨m0, hn0, _⟩ := I6.loc
  have hn0 : s.heap.Ns cenv.locals m0 := hn0
  have hCn : H cenv.locals = none := I6.free
  -- the block's names stand behind the call
  obtain ⟨hn1, c'⟩ : s'.heap.Ns cenv.locals m0 ∧ L2.CX X.prog X.w X.stack H s (fun cls d H' => E cls d H' ∧ H' cenv.locals = none) e s' := by
    obtain ⟨a, B, H', cls, d, rfl, fl, hok, ub, na, os, ag, hE⟩ := id c
    obtain ⟨oL, es, ep, hoL, hdL, r⟩ := id hn0
    exact ⟨⟨oL, es, ep, fl.1 _ _ (ub.keep _ _ hoL hCn hst), hdL, r⟩, a, B, H', cls, d, rfl, fl, hok, ub, na, os, ag, hE, ub.free _ _ hoL hCn⟩
  have x : XE X (fun cls d _ H => E cls d H ∧ H cenv.locals = none) e s' := XE.of_call IX (fun _ _ _ h => h) c'
  obtain ⟨a, B, sI, pins2, σ2, H2, cls, d, rfl, J, nb, up, sky, na, os, ag, w, hC2⟩ := x
  show wpAny (model X.prog X.w) X.A (noteFrame (.ref a) cenv) _ _ s'
  rw [noteFrame_env _ hcf]
  rw [hs] at sky
  refine sky_held Zc.steady hfr hf sky fun h1 hh1 up1 => ?_
  have hn2 : h1.Ns cenv.locals m0 := hn1.upToSlots up1
  refine ⟨m0, hn2, fun h2 m2 hn3 sb => ?_⟩
  obtain ⟨b1, b0, f1, oe, vs, T, oT, ts, he, hz, hd, hv1, hT0, hTe, hT, hTd, hT3⟩ := hh1
  obtain ⟨oL, es, ep, hoL, hdL, _⟩ := id hn2
  have naC : a ≠ cenv.locals := fun z => by
    rw [z, hoL] at he
    cases he
    rw [hdL] at hd
    cases hd
  have nTC : T ≠ cenv.locals := fun z => by
    rw [z, hoL] at hT
    cases hT
    rw [hdL] at hTd
    cases hTd
  obtain ⟨B', bk, bh⟩ := restrict B fun b => decide (b ≠ cenv.locals)
  have bB : ∀ b o, B'.get? b = some o → b ≠ cenv.locals ∧ B.get? b = some o := fun b o e => by
    by_cases hb : b = cenv.locals
    · rw [bh b (by simp [hb])] at e
      cases e
    · rw [bk b (by simp [hb])] at e
      exact ⟨hb, e⟩
  have bN : ∀ b, B.get? b = none → B'.get? b = none := fun b e => by
    cases q : B'.get? b with
    | none => rfl
    | some o =>
      rw [(bB b o q).2] at e
      cases e
  obtain ⟨hI, ik, ih⟩ := restrict sI.heap fun b => decide (b ≠ cenv.locals)
  have iI : ∀ b o, hI.get? b = some o → b ≠ cenv.locals ∧ sI.heap.get? b = some o := fun b o e => by
    by_cases hb : b = cenv.locals
    · rw [ih b (by simp [hb])] at e
      cases e
    · rw [ik b (by simp [hb])] at e
      exact ⟨hb, e⟩
  have held : HandSPX.HeldZ B' (X.env :: X.outer) a (Zc cls d) X.env.locals h2 := by
    refine ⟨fun b o e => ?_, bN _ b0, ?_, oe, vs, T, oT, ts, (sb.2 a naC).trans he, hz, hd, hv1, bN _ hT0, hTe, (sb.2 T nTC).trans hT, hTd, hT3⟩
    · obtain ⟨hb, e2⟩ := bB b o e
      exact (sb.2 b hb).trans (b1 b o e2)
    · have f2 := Heap.FunFrames.sameBut sb hn3 f1
      exact funFrames_none f2 fun L hL => bN L (f2.mem hL).1
  have he2 := (sb.2 a naC).trans he
  unfold PySem.passOn
  refine wpAny_bind (wpAny_field he2 hd hv1 ?_)
  rw [if_neg (show ¬ ((Value.ref T == Value.none) = true) from by simp)]
  have fin : wpAny (model X.prog X.w) X.A (setFlight (.ref a) cenv.frame) (fun _ s4 => wpAny (model X.prog X.w) X.A (throw (.ref a) : Sem Value) (fun _ _ => False) X.xe s4) X.xe { s' with heap := h2 } := by
    rw [hcf, hf]
    refine HandSPX.setFlight_onZ held fun h3 hh3 up3 => wpAny_throw (tk _ _ ?_)
    obtain ⟨f0, fa, fb, fc, fd, fe⟩ := hC hC2
    have J0 : L2.Inv X [] σ2 H2 sI := Inv.unpinned (pins := []) (pl := pins2) J
    refine ⟨a, B', { sI with heap := hI, toks := sI.toks }, [], σ2, H2, cls, d, rfl, J0.turned (it := cenv.locals) (fun b o hb e => by rw [ik b (by simp [hb])]; exact e) f0 fa fc fd fe, fun b o e hb => ?_, fun b o e hfl => ?_, .inr (.inr (by rw [hs]; exact hh3)), na, os, ag, w⟩
    · obtain ⟨h1', e1'⟩ := iI b o e
      rw [bk b (by simp [h1'])]
      exact nb b o e1' hb
    · obtain ⟨h1', e1'⟩ := iI b o e
      exact up_trans3 (up.trans up1) sb up3 b o h1' e1' hfl
  first
    | exact wpAny_bind (wpAny_pure (wpAny_bind fin))
    | exact wpAny_bind fin
end
section
variable {X : Cx}
/-- a list comprehension whose element calls what may raise -/
theorem pe_lcX {E : XK} {elt tg iter : Expr} {ifs : List Expr} {scope : Scope} {own : List (Str × Nat)} {pos : Pos} {wi : TI} {g : TG} {tt : TT} {te : TE} (hst : X.stack = X.env :: X.outer) (hfe : X.env.frame = some X.env.locals) (tk : Takes X (fun cls d _ H => E cls d H)) (hc : X.calm = true) (hN : X.N.Nodup) (hi : PI X tg iter wi) (ok : BlkOk X.N X.env.scope scope own)
    (hg : ∀ (s : Shared) (H : Hp) (C : Addr) (cl : List (Str × Addr)) (fp : List Addr) (xe : Value → Shared → Prop), PG (blkX X s H scope (compEnvC scope cl C X.env) fp xe) tg g)
    (ht : ∀ (s : Shared) (H : Hp) (C : Addr) (cl : List (Str × Addr)) (fp : List Addr) (xe : Value → Shared → Prop), PTs (blkX X s H scope (compEnvC scope cl C X.env) fp xe) ifs tt)
    (he : ∀ (s : Shared) (H : Hp) (C : Addr) (cl : List (Str × Addr)) (fp : List Addr) (xe : Value → Shared → Prop), Passes (L2.CX X.prog X.w) (blkX X s H scope (compEnvC scope cl C X.env) fp xe) E → PE (blkX X s H scope (compEnvC scope cl C X.env) fp xe) elt te)
    (hs : ∀ x, foldedSetIterable iter X.env x = pure x := by intro _; rfl) : PE X (.ListComp elt [⟨tg, iter, ifs, 0⟩] scope pos) (tLc wi g tt te (own.map (·.2))) := by
  refine ⟨fun pins s σ H Q I h => ?_⟩
  rw [eval_ListComp]
  have hfree : ∀ y ∈ scope.names, y.2 = .free → ∃ c, X.env.cells.lookup y.1 = some c := fun y hy e => by
    rcases ok.free y hy e with k | k
    · exact I.ok.has _ (.inl k)
    · exact I.ok.has _ (.inr k)
  refine comprehension_at (use := none) rfl hs (closure_ok hfree) ok.kind (fun y hy e => by rw [ok.uniq y hy, e])
    (thn (hi.run pins s σ H _ I h) fun xv s1 hx => thn hx fun itv s2 h2 => ?_)
  obtain ⟨it, fp, tn, J, H2, e, I2, T, st2, f2, q⟩ := h2
  subst e
  refine wpAny_newObj_type (newEnv_comp ?_) (by show 0 ≤ sizeLine; decide)
  generalize hD : s2.heap.objs.size = D
  have hDn : H2 D = none := I2.hok.fresh (Nat.le_of_eq hD)
  obtain ⟨W, ⟨m0, w0⟩, turn⟩ := q D hDn
  generalize hs3 : ({ s2 with heap := s2.heap.push { cls := .type "list", data := .seq ([] : List Value).toArray } } : Shared) = s3
  have I3 : L2.Inv X pins σ (upd H2 D (.lst [])) s3 := by
    rw [← hs3]
    refine I2.laid (t' := s2.toks) (fun b o e => Heap.get?_push_of_some _ e) (Nat.le_of_eq hD) ⟨Nat.zero_le _, [], 0, .nil, ?_⟩
    rw [← hD]
    exact Heap.get?_push_size _ rfl
  have h3 : s3.heap = s2.heap.push { cls := .type "list", data := .seq ([] : List Value).toArray } := by rw [← hs3]
  have sz : ∀ b ∈ fp, b < s2.heap.objs.size := fun b hb => by
    obtain ⟨o, e, _⟩ := T.obj _ _ st2 b hb
    exact Heap.lt_size e
  have f3 : ∀ b ∈ fp, FpOk X pins (upd H2 D (.lst [])) b ∧ b < s3.heap.objs.size := fun b hb => by
    have hlt := sz b hb
    refine ⟨⟨?_, (f2 b hb).2⟩, by rw [h3, Heap.size_push]; exact Nat.lt_succ_of_lt hlt⟩
    rw [upd_ne (by rw [← hD]; exact Nat.ne_of_lt hlt)]
    exact (f2 b hb).1
  have st3 : tn 0 s3.heap := T.keep _ _ _ st2 fun b _ o e => by rw [h3]; exact Heap.get?_push_of_some _ e
  have I4' := block_start I3 ok hN f3
  show codeAny _ _ (.compStart (.ListComp elt [⟨tg, iter, ifs, 0⟩] scope pos) 0 (.ref it) (.ref D) (compEnvC scope (cellsFrom (s3.heap.objs.size + 1) scope.names (cloFrom X.env.cells scope.names [])) s3.heap.objs.size X.env)) (compEnds (model X.prog X.w) X.A X.xe none (EP X pins σ Q) (.ref D) (compEnvC scope (cellsFrom (s3.heap.objs.size + 1) scope.names (cloFrom X.env.cells scope.names [])) s3.heap.objs.size X.env)) { s3 with heap := pushCells (s3.heap.push { cls := .type "dict", data := .dict #[] }) scope.names }
  have pg := hg s3 (upd H2 D (.lst [])) s3.heap.objs.size (cellsFrom (s3.heap.objs.size + 1) scope.names (cloFrom X.env.cells scope.names [])) fp
  have pt := ht s3 (upd H2 D (.lst [])) s3.heap.objs.size (cellsFrom (s3.heap.objs.size + 1) scope.names (cloFrom X.env.cells scope.names [])) fp
  have pe := he s3 (upd H2 D (.lst [])) s3.heap.objs.size (cellsFrom (s3.heap.objs.size + 1) scope.names (cloFrom X.env.cells scope.names [])) fp
  have nfp : ∀ b ∈ fp, (upd H2 D (.lst [])) b = none := fun b hb => (f3 b hb).1.1
  generalize hce : compEnvC scope (cellsFrom (s3.heap.objs.size + 1) scope.names (cloFrom X.env.cells scope.names [])) s3.heap.objs.size X.env = ce at I4' pg pt pe ⊢
  have cL : ce.locals = s3.heap.objs.size := by subst hce; rfl
  have cF : ce.frame = X.env.frame := by subst hce; rfl
  generalize hH3 : upd H2 D (.lst []) = H3 at I3 I4' pg pt pe w0 nfp f3
  obtain ⟨xe, hxe⟩ : ∃ xe : Value → Shared → Prop, xe = notedBy (model X.prog X.w) X.A ce (CompFails (model X.prog X.w) X.A X.xe ce) := ⟨_, rfl⟩
  have I4 : L2.Inv (blkX X s3 H3 scope ce fp xe) [] (wipe σ (own.map (·.2))) H3 _ := I4'.wish xe
  have hpass : Passes (L2.CX X.prog X.w) (blkX X s3 H3 scope ce fp xe) E := by
    rw [hxe]
    refine block_passes hst hfe tk I3 (fun b hb => (f3 b hb).1) cF (fun {H} hn => ?_) fun hm => ?_
    · have z := I3.fpOk (H' := H) (b := ce.locals) (by rw [cL]; exact Nat.le_refl _) hn
      exact ⟨z.1, z.2.1, z.2.2.1, z.2.2.2.1, z.2.2.2.2.1, fun p hp => z.2.2.2.2.2 p (by rw [List.append_nil] at hp; exact List.mem_append_left _ hp)⟩
    · obtain ⟨_, o, e, _⟩ := I3.stack.mem hm
      rw [cL] at e
      exact absurd (Heap.lt_size e) (Nat.lt_irrefl _)
  have pg := pg xe
  have pt := pt xe
  have pe := pe xe hpass
  generalize hs4 : ({ s3 with heap := pushCells (s3.heap.push { cls := .type "dict", data := .dict #[] }) scope.names } : Shared) = s4 at I4 ⊢
  have st4 : tn 0 s4.heap := T.keep _ _ _ st3 fun b _ o e => by rw [← hs4]; exact pushCells_keeps _ _ _ _ (Heap.get?_push_of_some _ e)
  have stat : ∀ {σ' : L2.St} {H' : Hp} {s' : Shared}, L2.Inv (blkX X s3 H3 scope ce fp xe) [] σ' H' s' → (∀ b ∈ fp, H' b = none) → ∀ b ∈ fp, FpOk (blkX X s3 H3 scope ce fp xe) [] H' b := fun {σ' H' s'} I' hn b hb =>
    ⟨hn b hb, (I'.ok.exf b hb).1, I'.ok.exfs b hb, .inl hb, fun x c e => (I'.ok.exf b hb).2 x c e, fun p hp => absurd (show p ∈ ([] : List (Addr × Obj)) ++ [] from hp) (by simp)⟩
  have loop : codeAny (model X.prog X.w) X.A (.compLoop (.ListComp elt [⟨tg, iter, ifs, 0⟩] scope pos) 0 (.ref it) (.ref D) ce) (compEnds (model X.prog X.w) X.A X.xe none (EP X pins σ Q) (.ref D) ce) s4 := by
    refine compLoop_any (fun n s' => ∃ i H', L2.Inv (blkX X s3 H3 scope ce fp xe) [] (wipe σ (own.map (·.2))) H' s' ∧ tn i s'.heap ∧ (∀ b ∈ fp, H' b = none) ∧ W i n H') ?_ m0 ⟨0, H3, I4, st4, nfp, w0⟩
    rintro n s5 ⟨i, H5, I5, st5, n5, w5⟩
    rcases turn i n H5 w5 with ⟨stop, qq⟩ | ⟨go, Nx, hNx, step⟩
    · have td := T.done (blkX X s3 H3 scope ce fp xe) rfl rfl rfl hc i [] s5 _ H5 (fun _ _ => False) I5 (stat I5 n5) st5 stop
      refine thnF td fun r s6 ⟨hr, I6⟩ => ?_
      subst hr
      have I7 : L2.Inv X pins σ H5 s6 := of_block I3 (fun b hb => (f3 b hb).1) I6
      have nC : H5 ce.locals = none := I6.free
      obtain ⟨m, hn, _⟩ := I6.loc
      have hn : s6.heap.Ns ce.locals m := hn
      obtain ⟨f0, f1, f2', f3', f4, f5⟩ := I3.fpOk (H' := H5) (b := ce.locals) (by rw [cL]; exact Nat.le_refl _) nC
      exact ⟨m, hn, fun h'' sb => ⟨.ref D, H5, I7.turned (t' := s6.toks) (fun b o hb e => (sb.2 b hb).trans e) f0 f1 f3' f4 f5, rfl, qq⟩⟩
    · have ti := T.item (blkX X s3 H3 scope ce fp xe) rfl rfl rfl hc i [] s5 _ H5 (fun _ _ => False) I5 (stat I5 n5) st5 go
      refine thnF ti fun r s6 ⟨u, hr, h6⟩ => ?_
      subst hr
      refine thnF h6 fun _ s7 ⟨x, H7, I7, r7, y7, st7, n7⟩ => ?_
      have I7' := I7.pinned (stat I7 n7) (T.obj _ _ st7)
      have toE : ∀ e s', xe e s' → notedBy (model X.prog X.w) X.A ce (fun e s' => compEnds (model X.prog X.w) X.A X.xe none (EP X pins σ Q) (.ref D) ce (.error e) s') e s' := fun e s' z => by
        rw [hxe] at z
        exact z
      refine wpAny_mono (pg.run _ s7 _ H7 x u _ I7' r7 (step x H7 y7)) (fun _ s8 ⟨σ8, H8, I8, hw8, q8⟩ => ?_) toE
      refine wpAny_mono (pt.run _ s8 σ8 H8 _ I8 q8) (fun b s9 ⟨H9, I9, q9⟩ => ?_) toE
      have fin : ∀ {s' : Shared} {H' : Hp}, L2.Inv (blkX X s3 H3 scope ce fp xe) ([] ++ pinsAt fp s7.heap) σ8 H' s' → Nx H' → ∃ m, m < n ∧ ∃ i H', L2.Inv (blkX X s3 H3 scope ce fp xe) [] (wipe σ (own.map (·.2))) H' s' ∧ tn i s'.heap ∧ (∀ b ∈ fp, H' b = none) ∧ W i m H' := fun {s' H'} I' nx => by
        obtain ⟨m', hm, w'⟩ := hNx H' nx
        have pin' : ∀ b ∈ fp, ∀ o, s7.heap.get? b = some o → s'.heap.get? b = some o ∧ H' b = none := fun b hb o e =>
          let z := I'.pin (b, o) (List.mem_append_right _ (List.mem_append_right _ (mem_pinsAt hb e)))
          ⟨z.1, z.2.1⟩
        have hl : (wipe σ (own.map (·.2))).length = σ8.length := by rw [← hw8, wipe_length]
        refine ⟨m', hm, i + 1, H', (I'.unpinned (pins := [])).weak hl (fun j v e => ?_), T.keep _ _ _ st7 fun b hb o e => (pin' b hb o e).1, fun b hb => ?_, w'⟩
        · rw [← hw8] at e
          exact (wipe_some e).1
        · obtain ⟨o, e, _⟩ := T.obj _ _ st7 b hb
          exact (pin' b hb o e).2
      cases b with
      | false =>
        simp only [Bool.false_eq_true, if_false] at q9 ⊢
        exact fin I9 q9
      | true =>
        simp only [if_true] at q9 ⊢
        refine wpAny_mono (pe.run _ s9 σ8 H9 _ I9 q9) (fun z s10 ⟨yv, H10, I10, r10, acc, hD10, hz10, nx⟩ => ?_) toE
        exact app_ok (X := blkX X s3 H3 scope ce fp xe) I10 hD10 hz10 r10 fun s11 I11 => fin I11 nx
  exact codeAny_compStart_list loop (T.self X.A 0 _ _ _ st4 loop)
end
end XB

set_option maxRecDepth 100000
set_option maxHeartbeats 4000000
/-! XB13: calls of defs that may raise; isinstance of a caught exception. -/
namespace XB
open PySem PySem.Spec PyProof.Rows L2
/-- a def, a method that may raise -/
structure CalX (P : Program) (w : World) (K : PySem.W.Frag) (mg : Str → Option Value) (base : Heap) (k : Nat) (x : Str) (sp : Sp) : Prop where
  ex : ∃ (f : Addr) (fd : FuncData) (ps : List Str), FnOk P w K mg base (L2.CX P w) k f fd ps sp ∧ mg x = some (.ref f) ∧ PySem.W.keepIn K (.ref f) = true ∧ Binds K fd ps []
structure MetX (P : Program) (w : World) (K : PySem.W.Frag) (mg : Str → Option Value) (base : Heap) (k : Nat) (C : Addr) (m : Str) (sp : Sp) (dvs : List V) : Prop where
  ex : ∃ (f : Addr) (fd : FuncData) (ps : List Str) (ds : List Value), Cls K C ∧ Meth K C m f ∧ FnOk P w K mg base (L2.CX P w) k f fd ps sp ∧ Binds K fd ps ds ∧ Vals dvs ds
structure KMetX (P : Program) (w : World) (K : PySem.W.Frag) (mg : Str → Option Value) (base : Heap) (k : Nat) (C : Addr) (m : Str) (ks : List Str) (sp : Sp) (gV : List V → List V → List V) : Prop where
  ex : ∃ (f : Addr) (fd : FuncData) (ps : List Str) (g : List Value → List Value → List Value), Cls K C ∧ Meth K C m f ∧ FnOk P w K mg base (L2.CX P w) k f fd ps sp ∧ KBn K fd ps 1 ks g gV
section
variable {X : Cx} {k j n : Nat} {C : Addr} {x m : Str} {sp : Sp} {ks : List Str} {dvs : List V} {p pos apos : Pos} {e o : Expr} {es : List Expr} {kws : List Keyword} {ta : TE} {t tk : TA} {gV : List V → List V → List V} {E : XK}
theorem pe_cX (c : CalX X.prog X.w X.K X.mg X.base k x sp) (hr : Room j X.A) (hk : k ≤ j) (hx : Passes (L2.CX X.prog X.w) X E) (hg : Gl X x) (ha : PA X (e :: es) t)
    (hdb : (x == ("__debug__" : Str)) = false := by decide) (he : starEach (e :: es) X.env = (false, eval e X.env) :: starEach es X.env := by rfl) (hpl : (backTo pos (starEach es X.env)).any (·.1) = false := by rfl) :
    PE X (.Call (.Name x p) (e :: es) [] pos) (tCall sp [] E t) := by
  obtain ⟨f, fd, ps, F, hm, kp, b⟩ := c.ex
  exact pe_call F (hr.mono hk) hg hm kp b .nil hx ha hdb he hpl
/-- .. in a try -/
theorem pe_cS (c : CalX X.prog X.w X.K X.mg X.base k x sp) (hr : Room j X.A) (hk : k ≤ j) {E : L2.St → XK} (hx : ∀ σ, PassesAt (L2.CX X.prog X.w) X σ (E σ)) (hg : Gl X x) (ha : PA X (e :: es) t)
    (hdb : (x == ("__debug__" : Str)) = false := by decide) (he : starEach (e :: es) X.env = (false, eval e X.env) :: starEach es X.env := by rfl) (hpl : (backTo pos (starEach es X.env)).any (·.1) = false := by rfl) :
    PE X (.Call (.Name x p) (e :: es) [] pos) (tCallS sp E t) := by
  obtain ⟨f, fd, ps, F, hm, kp, b⟩ := c.ex
  exact pe_callS F (hr.mono hk) hg hm kp b hx ha hdb he hpl
theorem pe_mtX {pl : Sem Bool} (c : MetX X.prog X.w X.K X.mg X.base k C m sp dvs) (hr : Room j X.A) (hk : k ≤ j) (hx : Passes (L2.CX X.prog X.w) X E) (he : PE X o ta) (ha : PA X (e :: es) t)
    (hst : starEach (e :: es) X.env = (false, eval e X.env) :: starEach es X.env := by rfl) (hpl : (backTo pos (starEach es X.env)).any (·.1) = false := by rfl)
    (ht : eval (.Call (.Attribute o m apos) (e :: es) [] pos) X.env = (do
      let ov ← eval o X.env
      standAt apos.atName
      let (f, first) ← holding [ov] (getMethod ov m pl)
      callWith pos f first (backTo pos (starEach (e :: es) X.env)) (backToKw pos (keywordEach [] X.env))) := by rfl) :
    PE X (.Call (.Attribute o m apos) (e :: es) [] pos) (tMeth C m sp dvs E ta t) := by
  obtain ⟨f, fd, ps, ds, hc, hm, F, b, d⟩ := c.ex
  exact pe_meth (pl := pl) he hc hm F (hr.mono hk) b d hx ha hst hpl ht
theorem pe_mt0X {pl : Sem Bool} (c : MetX X.prog X.w X.K X.mg X.base k C m sp dvs) (hr : Room j X.A) (hk : k ≤ j) (hx : Passes (L2.CX X.prog X.w) X E) (he : PE X o ta)
    (ht : eval (.Call (.Attribute o m apos) [] [] pos) X.env = (do
      let ov ← eval o X.env
      standAt apos.atName
      let (f, first) ← holding [ov] (getMethod ov m pl)
      callWith pos f first (backTo pos (starEach [] X.env)) (backToKw pos (keywordEach [] X.env))) := by rfl) :
    PE X (.Call (.Attribute o m apos) [] [] pos) (tMeth C m sp dvs E ta tNil) := by
  obtain ⟨f, fd, ps, ds, hc, hm, F, b, d⟩ := c.ex
  exact pe_meth0 (pl := pl) he hc hm F (hr.mono hk) b d hx ht
theorem pe_mtKX {pl : Sem Bool} (c : KMetX X.prog X.w X.K X.mg X.base k C m ks sp gV) (hr : Room j X.A) (hk : k ≤ j) (hx : Passes (L2.CX X.prog X.w) X E) (he : PE X o ta) (hkw : PK X kws tk)
    (hall : (backToKw pos (keywordEach kws X.env)).all (·.1.isSome) = true := by rfl) (hks : (backToKw pos (keywordEach kws X.env)).filterMap (·.1) = ks := by rfl)
    (hpl : ((backTo pos (starEach [] X.env)).any (·.1) || (backToKw pos (keywordEach kws X.env)).any (·.1.isNone)) = false := by rfl)
    (ht : eval (.Call (.Attribute o m apos) [] kws pos) X.env = (do
      let ov ← eval o X.env
      standAt apos.atName
      let (f, first) ← holding [ov] (getMethod ov m pl)
      callWith pos f first (backTo pos (starEach [] X.env)) (backToKw pos (keywordEach kws X.env))) := by rfl) :
    PE X (.Call (.Attribute o m apos) [] kws pos) (tMethK C m ks.length sp gV E ta tk) := by
  obtain ⟨f, fd, ps, g, hc, hm, F, hb⟩ := c.ex
  refine ⟨fun pins s σ H Q I h => ?_⟩
  refine PySem.W.methodCall_KW (pl := pl) (thn (he.run pins s σ H _ I h) fun u s1 ⟨y, H1, I1, ry, a, dx, fs, ex, ea, l, q⟩ => ?_) ht
  subst ex
  cases ry
  refine getmeth_ok I1 ea hc hm l ?_
  refine PySem.W.callWith_KW0 (first := [.ref a]) (h₀ := X.base) I.ok.mod.kin hm.kp hall ?_ hpl
  refine thn (hkw.run pos pins s1 σ H1 _ I1 q) fun ws s2 ⟨zs, H2, I2, rz, l2, q2⟩ => ⟨I2.kIn, ?_⟩
  rw [hks]
  exact run_fnN (us := [.ref a]) (vs := [.ref a]) F (hr.mono hk) hb hx I2 (.cons rfl .nil) rz rfl l2 q2
end
/-- a value that some cases alone need -/
def tGiven (P : Prop) (t : TE) : TE := fun σ H Q => P ∧ t σ H Q
theorem pe_given {X : Cx} {P : Prop} {e : Expr} {t : TE} (h : P → PE X e t) : PE X e (tGiven P t) :=
  ⟨fun pins s σ H Q I q => (h q.1).run pins s σ H Q I q.2⟩
/-- isinstance(e, C), e the exception that the suite holds; it is of the class D, without a dict -/
theorem pe_isE {X : Cx} {a D : Addr} {cls : Value} {d : Option Addr} {oe : Obj} {pn : List (Addr × Obj)} {p pos : Pos} {e : Expr} {es : List Expr} {t : TA} (C : ExcC X.K D) (hz : Zc cls d oe) (hf : ∃ vs, oe.data = .fields vs) (hg : Gl X "isinstance") (hm : X.mg "isinstance" = none)
    (ha : PA (X.suite a ((a, oe) :: pn)) (e :: es) t) (he : starEach (e :: es) X.env = (false, eval e X.env) :: starEach es X.env := by rfl) (hpl : (backTo pos (starEach es X.env)).any (·.1) = false := by rfl) :
    PE (X.suite a ((a, oe) :: pn)) (.Call (.Name "isinstance" p) (e :: es) [] pos) (tGiven (cls = .ref D ∧ d = none) (tCB (rIsE X.K D a) t)) :=
  pe_given fun h => by
    obtain ⟨rfl, rfl⟩ := h
    exact pe_callB (X := X.suite a ((a, oe) :: pn)) (call_isE C hz hf) hg hm boot_isinstance ha (by decide) (by decide) he hpl
/-- dict(d), d a dict with plain keys -/
def rDictC : List V → Hp → VK → Prop := fun xs H Q => ∃ a kvs, xs = [.ref a] ∧ H a = some (.dK kvs) ∧ ∀ p, H p = none → Q (.ref p) (upd H p (.dK kvs))
theorem call_dictC {X : Cx} : CallR X (.type "dict") rDictC := by
  intro pins s σ H xs us Q I r h
  obtain ⟨a, kvs, e, hk, q⟩ := h
  subst e
  obtain ⟨u, eu, rx⟩ := vals1 r
  subst eu
  obtain rfl : u = Value.ref a := rx
  exact d_copyOf I (by first | exact hk | exact .inl hk) fun p s' hp I' => ⟨.ref p, _, I', rfl, q p hp⟩
/-- int(x) of a number, of a truth -/
def rInt1 : List V → Hp → VK → Prop := fun xs H Q => (∃ i, xs = [.int i] ∧ Q (.int i) H) ∨ ∃ k, xs = [.bl k] ∧ Q (.int (if k then 1 else 0)) H
end XB

set_option maxRecDepth 100000
set_option maxHeartbeats 4000000
/-! XB19: dict comprehensions with two clauses; several dicts locked; a number multiplied in place. -/
namespace XB
open PySem PySem.Spec PyProof.Rows L2
theorem turnD2_out (kx vx t0 i0 t1 i1 : Expr) (ifs0 ifs1 : List Expr) (scope : Scope) (pos : Pos) (it acc : Value) (env : Env) :
    compTurn (.DictComp kx vx [⟨t0, i0, ifs0, 0⟩, ⟨t1, i1, ifs1, 0⟩] scope pos) 0 it acc env = (do
      standAt i0.pos
      match ← pyNext it with
      | none => pure (.done .next)
      | some v =>
        letOwnedTupleGo t0 it v
        assign t0 env v
        let mut ok := true
        for c in ifs0 do
          if ok then ok ← isTrue c env (eval c env)
        if ok then
          let x ← eval i1 env
          standAt i1.pos
          let x ← foldedSetIterable i1 env x
          let _ ← runOwn (.compStart (.DictComp kx vx [⟨t0, i0, ifs0, 0⟩, ⟨t1, i1, ifs1, 0⟩] scope pos) 1 (← holding [x] (pyIter x)) acc env) env
        again (.compLoop (.DictComp kx vx [⟨t0, i0, ifs0, 0⟩, ⟨t1, i1, ifs1, 0⟩] scope pos) 0 it acc env)) := by rfl
theorem turnD2_in (kx vx t0 i0 t1 i1 : Expr) (ifs0 ifs1 : List Expr) (scope : Scope) (pos : Pos) (it : Value) (D : Addr) (env : Env) :
    compTurn (.DictComp kx vx [⟨t0, i0, ifs0, 0⟩, ⟨t1, i1, ifs1, 0⟩] scope pos) 1 it (.ref D) env = (do
      standAt i1.pos
      match ← pyNext it with
      | none => pure (.done .next)
      | some v =>
        letOwnedTupleGo t1 it v
        assign t1 env v
        let mut ok := true
        for c in ifs1 do
          if ok then ok ← isTrue c env (eval c env)
        if ok then
          (do
            let kv ← eval kx env
            let vv ← holding [kv] (eval vx env)
            standAt { kx.pos with endLine := vx.pos.endLine, endCol := vx.pos.endCol }
            holding [kv, vv] (dictSet D kv vv))
        again (.compLoop (.DictComp kx vx [⟨t0, i0, ifs0, 0⟩, ⟨t1, i1, ifs1, 0⟩] scope pos) 1 it (.ref D) env)) := by rfl
section
variable {prog : Program} {w : World} {A : Around} {R : Result → Shared → Prop} {s : Shared} {kx vx t0 i0 t1 i1 : Expr} {ifs0 ifs1 : List Expr} {scope : Scope} {pos : Pos} {it acc : Value} {D : Addr} {env : Env}
/-- an exception of the block -/
abbrev errD (prog : Program) (w : World) (A : Around) (env : Env) (R : Result → Shared → Prop) : Value → Shared → Prop := notedBy (model prog w) A env fun e s' => R (.error e) s'
/-- a clause's tests, each after the other -/
abbrev testsD (ifs : List Expr) (env : Env) : Sem Bool := forIn ifs true fun c r => if r = true then do let ok ← isTrue c env (eval c env); pure (ForInStep.yield ok) else pure (ForInStep.yield r)
theorem loopD2_out (hs : ∀ x, foldedSetIterable i1 env x = pure x) (I : Nat → Shared → Prop)
    (turn : ∀ n s, I n s → wpAny (model prog w) A (pyNext it) (fun r s₁ => match r with
      | none => R (.ok .next) s₁
      | some v => wpAny (model prog w) A (letOwnedTupleGo t0 it v) (fun _ s₁' => wpAny (model prog w) A (assign t0 env v) (fun _ s₂ => wpAny (model prog w) A (testsD ifs0 env) (fun ok s₃ =>
            if ok = true then wpAny (model prog w) A (eval i1 env) (fun x s₄ => wpAny (model prog w) A (pyIter x) (fun it1 s₅ =>
              codeAny (model prog w) A (.compStart (.DictComp kx vx [⟨t0, i0, ifs0, 0⟩, ⟨t1, i1, ifs1, 0⟩] scope pos) 1 it1 acc env) (fun r s' => match r with
                | .ok _ => ∃ m, m < n ∧ I m s'
                | .error _ => False) s₅) (errD prog w A env R) s₄) (errD prog w A env R) s₃
            else ∃ m, m < n ∧ I m s₃) (errD prog w A env R) s₂) (errD prog w A env R) s₁') (errD prog w A env R) s₁) (errD prog w A env R) s)
    (n : Nat) (h : I n s) : codeAny (model prog w) A (.compLoop (.DictComp kx vx [⟨t0, i0, ifs0, 0⟩, ⟨t1, i1, ifs1, 0⟩] scope pos) 0 it acc env) R s := by
  refine codeAny_loop rfl I (fun n s hI => ?_) n h
  show wpAny _ A ((compTurn (.DictComp kx vx [⟨t0, i0, ifs0, 0⟩, ⟨t1, i1, ifs1, 0⟩] scope pos) 0 it acc env).onRaise (fun x => do noteFrame x env; theTreesLotGoes x)) _ _ s
  refine wpAny_noted ?_
  rw [turnD2_out]
  refine wpAny_bind (wpAny_standAt (wpAny_bind (wpAny_mono (turn n s hI) (fun r s₁ h₁ => ?_) fun _ _ h' => h')))
  cases r with
  | none => exact wpAny_pure h₁
  | some v =>
    refine wpAny_bind (wpAny_mono h₁ (fun _ s₁' h₁' => ?_) fun _ _ h' => h')
    refine wpAny_bind (wpAny_mono h₁' (fun _ s₂ h₂ => wpAny_bind (wpAny_mono h₂ (fun ok s₃ h₃ => ?_) fun _ _ h' => h')) fun _ _ h' => h')
    cases ok with
    | false => exact wpAny_pure ⟨rfl, h₃⟩
    | true =>
      refine wpAny_bind (wpAny_mono h₃ (fun x s₄ h₄ => ?_) fun _ _ h' => h')
      refine wpAny_bind (wpAny_standAt (wpAny_bind (wpAny_of_eq (hs x) (wpAny_bind (wpAny_holding (wpAny_mono h₄ (fun it1 s₅ h₅ => ?_) fun _ _ h' => h'))))))
      refine wpAny_bind (wpAny_runOwn ?_)
      rw [Around.mark_none]
      refine codeAny_mono h₅ fun r s' hr => ?_
      cases r with
      | ok f =>
        first
          | exact wpAny_pure ⟨rfl, hr⟩
          | exact wpAny_bind (wpAny_pure (wpAny_pure ⟨rfl, hr⟩))
      | error e => exact hr.elim
theorem loopD2_in (I : Nat → Shared → Prop)
    (turn : ∀ n s, I n s → wpAny (model prog w) A (pyNext it) (fun r s₁ => match r with
      | none => R (.ok .next) s₁
      | some v => wpAny (model prog w) A (letOwnedTupleGo t1 it v) (fun _ s₁' => wpAny (model prog w) A (assign t1 env v) (fun _ s₂ => wpAny (model prog w) A (testsD ifs1 env) (fun ok s₃ =>
            if ok = true then wpAny (model prog w) A (eval kx env) (fun kv s₄ => wpAny (model prog w) A (eval vx env) (fun vv s₅ =>
              wpAny (model prog w) A (dictSet D kv vv) (fun _ s₆ => ∃ m, m < n ∧ I m s₆) (errD prog w A env R) s₅) (errD prog w A env R) s₄) (errD prog w A env R) s₃
            else ∃ m, m < n ∧ I m s₃) (errD prog w A env R) s₂) (errD prog w A env R) s₁') (errD prog w A env R) s₁) (errD prog w A env R) s)
    (n : Nat) (h : I n s) : codeAny (model prog w) A (.compLoop (.DictComp kx vx [⟨t0, i0, ifs0, 0⟩, ⟨t1, i1, ifs1, 0⟩] scope pos) 1 it (.ref D) env) R s := by
  refine codeAny_loop rfl I (fun n s hI => ?_) n h
  show wpAny _ A ((compTurn (.DictComp kx vx [⟨t0, i0, ifs0, 0⟩, ⟨t1, i1, ifs1, 0⟩] scope pos) 1 it (.ref D) env).onRaise (fun x => do noteFrame x env; theTreesLotGoes x)) _ _ s
  refine wpAny_noted ?_
  rw [turnD2_in]
  refine wpAny_bind (wpAny_standAt (wpAny_bind (wpAny_mono (turn n s hI) (fun r s₁ h₁ => ?_) fun _ _ h' => h')))
  cases r with
  | none => exact wpAny_pure h₁
  | some v =>
    refine wpAny_bind (wpAny_mono h₁ (fun _ s₁' h₁' => ?_) fun _ _ h' => h')
    refine wpAny_bind (wpAny_mono h₁' (fun _ s₂ h₂ => wpAny_bind (wpAny_mono h₂ (fun ok s₃ h₃ => ?_) fun _ _ h' => h')) fun _ _ h' => h')
    cases ok with
    | false => exact wpAny_pure ⟨rfl, h₃⟩
    | true =>
      exact wpAny_bind (wpAny_bind (wpAny_mono h₃ (fun kv s₄ h₄ => wpAny_bind (wpAny_holding (wpAny_mono h₄ (fun vv s₅ h₅ => wpAny_bind (wpAny_standAt (wpAny_holding (wpAny_mono h₅ (fun _ s₆ h₆ => wpAny_pure ⟨rfl, h₆⟩) fun _ _ h' => h')))) fun _ _ h' => h'))) fun _ _ h' => h'))
theorem startD1_ok (h0 : codeAny (model prog w) A (.compLoop (.DictComp kx vx [⟨t0, i0, ifs0, 0⟩, ⟨t1, i1, ifs1, 0⟩] scope pos) 1 it acc env) R s)
    (h : wpAny (model prog w) A (pyIter it) (fun it' s' => codeAny (model prog w) A (.compLoop (.DictComp kx vx [⟨t0, i0, ifs0, 0⟩, ⟨t1, i1, ifs1, 0⟩] scope pos) 1 it' acc env) R s') (errD prog w A env R) s) :
    codeAny (model prog w) A (.compStart (.DictComp kx vx [⟨t0, i0, ifs0, 0⟩, ⟨t1, i1, ifs1, 0⟩] scope pos) 1 it acc env) R s := by
  refine codeAny_of_tree ?_
  show wpAny _ _ ((compStart (.DictComp kx vx [⟨t0, i0, ifs0, 0⟩, ⟨t1, i1, ifs1, 0⟩] scope pos) 1 it acc env).onRaise (fun x => do noteFrame x env; standAt theWindowsPlace)) _ _ s
  refine wpAny_notedAt ?_
  unfold compStart
  show wpAny _ _ (ask >>= _) _ _ s
  refine wpAny_bind (wpAny_askSetting (wpAny_ite ?_))
  split
  · first
      | exact wpAny_bind (wpAny_pure (wpAny_pure (And.intro rfl h0)))
      | exact wpAny_pure (And.intro rfl h0)
  · first
      | exact wpAny_bind (wpAny_rule (wpAny_bind (wpAny_standAt (wpAny_bind (wpAny_mono h (fun it' s' h' => wpAny_pure (And.intro rfl h')) fun _ _ x => x)))))
      | (refine wpAny_bind (wpAny_rule ?_); show wpAny _ _ (standAt i1.pos >>= _) _ _ s; exact wpAny_bind (wpAny_standAt (wpAny_bind (wpAny_mono h (fun it' s' h' => wpAny_pure (And.intro rfl h')) fun _ _ x => x))))
end
section
variable {X : Cx}
/-- {k: v for tg in iter if .. for tg1 in iter1 if ..} -/
def tDc2 (wi : TI) (g : TG) (tt : TT) (wi1 : TI) (g1 : TG) (tt1 : TT) (tk tv : TE) (vs vs1 : List Nat) : TE := fun σ H Q => wi σ H fun J H1 => ∀ D, H1 D = none → ∃ W : Nat → Nat → Hp → Prop, (∃ m, W 0 m (upd H1 D (.dK []))) ∧ ∀ i m H, W i m H →
  (J.stop i H ∧ Q (.ref D) H) ∨ (J.go i H ∧ ∃ Nx : Hp → Prop, (∀ H', Nx H' → ∃ m', m' < m ∧ W (i + 1) m' H') ∧ ∀ x H', J.yld i H x H' → g x (wipe σ vs) H' fun σ2 H2 => wipe σ2 vs = wipe σ vs ∧ tt σ2 H2 fun b H3 =>
    if b = true then wi1 σ2 H3 fun J1 H4 => ∃ W1 : Nat → Nat → Hp → Prop, (∃ m, W1 0 m H4) ∧ ∀ j k H, W1 j k H →
      (J1.stop j H ∧ Nx H) ∨ (J1.go j H ∧ ∃ Nx1 : Hp → Prop, (∀ H', Nx1 H' → ∃ k', k' < k ∧ W1 (j + 1) k' H') ∧ ∀ x H', J1.yld j H x H' → g1 x (wipe σ2 vs1) H' fun σ3 H5 => wipe σ3 vs1 = wipe σ2 vs1 ∧ tt1 σ3 H5 fun b H6 =>
        if b = true then tk σ3 H6 fun y H7 => tv σ3 H7 fun z H8 => ∃ kvs kk, y = kV kk ∧ H8 D = some (.dK kvs) ∧ kvs.length < sizeLine ∧ Nx1 (upd H8 D (.dK (putK kvs kk z))) else Nx1 H6)
    else Nx H3)
theorem dc2_core {pins : List (Addr × Obj)} {s : Shared} {σ : L2.St} {H : Hp} {Q : VK} {kx vx tg iter tg1 iter1 : Expr} {ifs ifs1 : List Expr} {scope : Scope} {own : List (Str × Nat)} {vs1 : List Nat} {pos pos' : Pos} {wi wi1 : TI} {g g1 : TG} {tt tt1 : TT} {tk tv : TE} {use : Option (Value → Sem Unit)} {Qf : Value → Shared → Prop}
    (hc : X.calm = true) (hN : X.N.Nodup) (I : L2.Inv X pins σ H s) (hi : PI X tg iter wi) (ok : BlkOk X.N X.env.scope scope own) (hv : ∀ i ∈ vs1, i ∈ own.map (·.2))
    (hg : ∀ (s : Shared) (H : Hp) (C : Addr) (cl : List (Str × Addr)) (fp : List Addr), PG (X.blk s H scope (compEnvC scope cl C X.env) fp) tg g)
    (ht : ∀ (s : Shared) (H : Hp) (C : Addr) (cl : List (Str × Addr)) (fp : List Addr), PTs (X.blk s H scope (compEnvC scope cl C X.env) fp) ifs tt)
    (hk : ∀ (s : Shared) (H : Hp) (C : Addr) (cl : List (Str × Addr)) (fp : List Addr), PE (X.blk s H scope (compEnvC scope cl C X.env) fp) kx tk)
    (he : ∀ (s : Shared) (H : Hp) (C : Addr) (cl : List (Str × Addr)) (fp : List Addr), PE (X.blk s H scope (compEnvC scope cl C X.env) fp) vx tv)
    (hi1 : ∀ (s : Shared) (H : Hp) (C : Addr) (cl : List (Str × Addr)) (fp : List Addr), PI (X.blk s H scope (compEnvC scope cl C X.env) fp) tg1 iter1 wi1)
    (hg1 : ∀ (s : Shared) (H : Hp) (C : Addr) (cl : List (Str × Addr)) (fp : List Addr), PG (X.blk s H scope (compEnvC scope cl C X.env) fp) tg1 g1)
    (ht1 : ∀ (s : Shared) (H : Hp) (C : Addr) (cl : List (Str × Addr)) (fp : List Addr), PTs (X.blk s H scope (compEnvC scope cl C X.env) fp) ifs1 tt1)
    (hs : ∀ x, foldedSetIterable iter X.env x = pure x) (hs1 : ∀ env x, foldedSetIterable iter1 env x = pure x) (h : tDc2 wi g tt wi1 g1 tt1 tk tv (own.map (·.2)) vs1 σ H Q)
    (hRR : ∀ D C s' m H', L2.Inv X pins σ H' s' → Q (.ref D) H' → s'.heap.Ns C m → FpOk X pins H' C → compPost (model X.prog X.w) X.A X.xe use Qf (.ref D) C (.ok .next) s') :
    wpAny (model X.prog X.w) X.A (comprehension (.DictComp kx vx [⟨tg, iter, ifs, 0⟩, ⟨tg1, iter1, ifs1, 0⟩] scope pos) scope X.env pos' newDict false (eval iter X.env) use) Qf X.xe s := by
  have hfree : ∀ y ∈ scope.names, y.2 = .free → ∃ c, X.env.cells.lookup y.1 = some c := fun y hy e => (ok.free y hy e).elim (fun k => I.ok.has _ (.inl k)) fun k => I.ok.has _ (.inr k)
  refine wpAny_comprehension_free (use := use) rfl hs (closure_ok hfree) ok.kind (fun y hy e => by rw [ok.uniq y hy, e]) (thn (hi.run pins s σ H _ I h) fun xv s1 hx => thn hx fun itv s2 h2 => ?_)
  obtain ⟨it, fp, tn, J, H2, e, I2, T, st2, f2, q⟩ := h2
  subst e
  refine wpAny_newObj_type (newEnv_comp ?_)
  generalize hD : s2.heap.objs.size = D
  have hDn : H2 D = none := I2.hok.fresh (Nat.le_of_eq hD)
  obtain ⟨W, ⟨m0, w0⟩, turn⟩ := q D hDn
  generalize hs3 : ({ s2 with heap := s2.heap.push { cls := .type "dict", data := .dict #[] } } : Shared) = s3
  have I3 : L2.Inv X pins σ (upd H2 D (.dK [])) s3 := by
    rw [← hs3]
    refine I2.laid (t' := s2.toks) (fun b o e => Heap.get?_push_of_some _ e) (Nat.le_of_eq hD) ?_
    rw [← hD]
    exact dk_empty s2.heap I2.big
  have h3 : s3.heap = s2.heap.push { cls := .type "dict", data := .dict #[] } := by rw [← hs3]
  have sz : ∀ b ∈ fp, b < s2.heap.objs.size := fun b hb => let ⟨o, e, _⟩ := T.obj _ _ st2 b hb; Heap.lt_size e
  have f3 : ∀ b ∈ fp, FpOk X pins (upd H2 D (.dK [])) b ∧ b < s3.heap.objs.size := fun b hb => by
    have hlt := sz b hb
    refine ⟨⟨?_, (f2 b hb).2⟩, by rw [h3, Heap.size_push]; exact Nat.lt_succ_of_lt hlt⟩
    rw [upd_ne (by rw [← hD]; exact Nat.ne_of_lt hlt)]
    exact (f2 b hb).1
  have st3 : tn 0 s3.heap := T.keep _ _ _ st2 fun b _ o e => by rw [h3]; exact Heap.get?_push_of_some _ e
  have I4 := block_start I3 ok hN f3
  have pg := hg s3 (upd H2 D (.dK [])) s3.heap.objs.size (cellsFrom (s3.heap.objs.size + 1) scope.names (cloFrom X.env.cells scope.names [])) fp
  have pt := ht s3 (upd H2 D (.dK [])) s3.heap.objs.size (cellsFrom (s3.heap.objs.size + 1) scope.names (cloFrom X.env.cells scope.names [])) fp
  have pk := hk s3 (upd H2 D (.dK [])) s3.heap.objs.size (cellsFrom (s3.heap.objs.size + 1) scope.names (cloFrom X.env.cells scope.names [])) fp
  have pe := he s3 (upd H2 D (.dK [])) s3.heap.objs.size (cellsFrom (s3.heap.objs.size + 1) scope.names (cloFrom X.env.cells scope.names [])) fp
  have pi1 := hi1 s3 (upd H2 D (.dK [])) s3.heap.objs.size (cellsFrom (s3.heap.objs.size + 1) scope.names (cloFrom X.env.cells scope.names [])) fp
  have pg1 := hg1 s3 (upd H2 D (.dK [])) s3.heap.objs.size (cellsFrom (s3.heap.objs.size + 1) scope.names (cloFrom X.env.cells scope.names [])) fp
  have pt1 := ht1 s3 (upd H2 D (.dK [])) s3.heap.objs.size (cellsFrom (s3.heap.objs.size + 1) scope.names (cloFrom X.env.cells scope.names [])) fp
  show codeAny _ _ (.compStart (.DictComp kx vx [⟨tg, iter, ifs, 0⟩, ⟨tg1, iter1, ifs1, 0⟩] scope pos) 0 (.ref it) (.ref D) (compEnvC scope (cellsFrom (s3.heap.objs.size + 1) scope.names (cloFrom X.env.cells scope.names [])) s3.heap.objs.size X.env)) (compPost (model X.prog X.w) X.A X.xe use Qf (.ref D) s3.heap.objs.size) { s3 with heap := pushCells (s3.heap.push { cls := .type "dict", data := .dict #[] }) scope.names }
  have nfp : ∀ b ∈ fp, (upd H2 D (.dK [])) b = none := fun b hb => (f3 b hb).1.1
  generalize hce : compEnvC scope (cellsFrom (s3.heap.objs.size + 1) scope.names (cloFrom X.env.cells scope.names [])) s3.heap.objs.size X.env = ce at I4 pg pt pk pe pi1 pg1 pt1 ⊢
  have cL : ce.locals = s3.heap.objs.size := by subst hce; rfl
  generalize hH3 : upd H2 D (.dK []) = H3 at I3 I4 pg pt pk pe pi1 pg1 pt1 w0 nfp f3
  generalize hs4 : ({ s3 with heap := pushCells (s3.heap.push { cls := .type "dict", data := .dict #[] }) scope.names } : Shared) = s4 at I4 ⊢
  have st4 : tn 0 s4.heap := T.keep _ _ _ st3 fun b _ o e => by rw [← hs4]; exact pushCells_keeps _ _ _ _ (Heap.get?_push_of_some _ e)
  have stat : ∀ {σ' : L2.St} {H' : Hp} {s' : Shared}, L2.Inv (X.blk s3 H3 scope ce fp) [] σ' H' s' → (∀ b ∈ fp, H' b = none) → ∀ b ∈ fp, FpOk (X.blk s3 H3 scope ce fp) [] H' b := fun {σ' H' s'} I' hn b hb =>
    ⟨hn b hb, (I'.ok.exf b hb).1, I'.ok.exfs b hb, .inl hb, fun x c e => (I'.ok.exf b hb).2 x c e, fun p hp => absurd (show p ∈ ([] : List (Addr × Obj)) ++ [] from hp) (by simp)⟩
  have loop : codeAny (model X.prog X.w) X.A (.compLoop (.DictComp kx vx [⟨tg, iter, ifs, 0⟩, ⟨tg1, iter1, ifs1, 0⟩] scope pos) 0 (.ref it) (.ref D) ce) (compPost (model X.prog X.w) X.A X.xe use Qf (.ref D) s3.heap.objs.size) s4 := by
    refine loopD2_out (hs1 ce) (fun n s' => ∃ i H', L2.Inv (X.blk s3 H3 scope ce fp) [] (wipe σ (own.map (·.2))) H' s' ∧ tn i s'.heap ∧ (∀ b ∈ fp, H' b = none) ∧ W i n H') ?_ m0 ⟨0, H3, I4, st4, nfp, w0⟩
    rintro n s5 ⟨i, H5, I5, st5, n5, w5⟩
    rcases turn i n H5 w5 with ⟨stop, qq⟩ | ⟨go, Nx, hNx, step⟩
    · refine thnF (T.done (X.blk s3 H3 scope ce fp) rfl rfl rfl hc i [] s5 _ H5 (fun _ _ => False) I5 (stat I5 n5) st5 stop) fun r s6 ⟨hr, I6⟩ => ?_
      subst hr
      have nC : H5 s3.heap.objs.size = none := by
        have z : H5 ce.locals = none := I6.free
        rw [cL] at z
        exact z
      obtain ⟨m, hn, _⟩ := I6.loc
      have hn : s6.heap.Ns ce.locals m := hn
      rw [cL] at hn
      exact hRR D s3.heap.objs.size s6 m H5 (I3.call' (ch := fp) I6.os I6.base I6.hok I6.bare fun b hb => ⟨(f3 b hb).1.2.2.2.1, (f3 b hb).1.2.1, (f3 b hb).1.2.2.2.2.1, (f3 b hb).1.2.2.2.2.2⟩) qq hn (I3.fpOk (Nat.le_refl _) nC)
    · refine thnF (T.item (X.blk s3 H3 scope ce fp) rfl rfl rfl hc i [] s5 _ H5 (fun _ _ => False) I5 (stat I5 n5) st5 go) fun r s6 ⟨u, hr, h6⟩ => ?_
      subst hr
      refine thnF h6 fun _ s7 ⟨x, H7, I7, r7, y7, st7, n7⟩ => ?_
      refine thnF (pg.run _ s7 _ H7 x u _ (I7.pinned (stat I7 n7) (T.obj _ _ st7)) r7 (step x H7 y7)) fun _ s8 ⟨σ8, H8, I8, hw8, q8⟩ => ?_
      refine thnF (pt.run _ s8 σ8 H8 _ I8 q8) fun b s9 ⟨H9, I9, q9⟩ => ?_
      have fin : ∀ {σ9 : L2.St} {s' : Shared} {H' : Hp}, L2.Inv (X.blk s3 H3 scope ce fp) ([] ++ pinsAt fp s7.heap) σ9 H' s' → (wipe σ (own.map (·.2))).length = σ9.length → (∀ (j : Nat) v, (wipe σ (own.map (·.2)))[j]? = some (some v) → σ9[j]? = some (some v)) → Nx H' →
          ∃ m, m < n ∧ ∃ i H', L2.Inv (X.blk s3 H3 scope ce fp) [] (wipe σ (own.map (·.2))) H' s' ∧ tn i s'.heap ∧ (∀ b ∈ fp, H' b = none) ∧ W i m H' := fun {σ9 s' H'} I' hl hk nx => by
        obtain ⟨m', hm, w'⟩ := hNx H' nx
        have pin' : ∀ b ∈ fp, ∀ o, s7.heap.get? b = some o → s'.heap.get? b = some o ∧ H' b = none := fun b hb o e => let z := I'.pin (b, o) (List.mem_append_right _ (List.mem_append_right _ (mem_pinsAt hb e))); ⟨z.1, z.2.1⟩
        refine ⟨m', hm, i + 1, H', (I'.unpinned (pins := [])).weak hl hk, T.keep _ _ _ st7 fun b hb o e => (pin' b hb o e).1, fun b hb => ?_, w'⟩
        obtain ⟨o, e, _⟩ := T.obj _ _ st7 b hb
        exact (pin' b hb o e).2
      have hl8 : (wipe σ (own.map (·.2))).length = σ8.length := by rw [← hw8, wipe_length]
      have hk8 : ∀ (j : Nat) v, (wipe σ (own.map (·.2)))[j]? = some (some v) → σ8[j]? = some (some v) := fun j v e => by
        rw [← hw8] at e
        exact (wipe_some e).1
      have hk9 : ∀ (j : Nat) v, (wipe σ (own.map (·.2)))[j]? = some (some v) → (wipe σ8 vs1)[j]? = some (some v) := fun j v e => by
        rw [← hw8] at e
        obtain ⟨e1, e2⟩ := wipe_some e
        rw [wipe_out fun z => e2 (hv j z)]
        exact e1
      cases b with
      | false =>
        simp only [Bool.false_eq_true, if_false] at q9 ⊢
        exact fin I9 hl8 hk8 q9
      | true =>
        simp only [if_true] at q9 ⊢
        refine thnF (pi1.run _ s9 σ8 H9 _ I9 q9) fun xv s10 hx => thnF hx fun itv s11 h11 => ?_
        obtain ⟨it1, fp1, tn1, J1, H11, e1, I11, T1, st11, f11, W1, ⟨m1, w1⟩, turn1⟩ := h11
        subst e1
        have stat1 : ∀ {H' : Hp}, (∀ b ∈ fp1, H' b = none) → ∀ b ∈ fp1, FpOk (X.blk s3 H3 scope ce fp) ([] ++ pinsAt fp s7.heap) H' b := fun hn b hb => ⟨hn b hb, (f11 b hb).2⟩
        have loop1 : codeAny (model X.prog X.w) X.A (.compLoop (.DictComp kx vx [⟨tg, iter, ifs, 0⟩, ⟨tg1, iter1, ifs1, 0⟩] scope pos) 1 (.ref it1) (.ref D) ce)
            (fun r s' => match r with
              | .ok _ => ∃ m, m < n ∧ ∃ i H', L2.Inv (X.blk s3 H3 scope ce fp) [] (wipe σ (own.map (·.2))) H' s' ∧ tn i s'.heap ∧ (∀ b ∈ fp, H' b = none) ∧ W i m H'
              | .error _ => False) s11 := by
          refine loopD2_in (fun k s' => ∃ j H', L2.Inv (X.blk s3 H3 scope ce fp) ([] ++ pinsAt fp s7.heap) (wipe σ8 vs1) H' s' ∧ tn1 j s'.heap ∧ (∀ b ∈ fp1, H' b = none) ∧ W1 j k H') ?_ m1 ⟨0, H11, I11.weak (wipe_length _ _) (fun j v e => (wipe_some e).1), st11, fun b hb => (f11 b hb).1, w1⟩
          rintro k s12 ⟨j, H12, I12, st12, n12, w12⟩
          rcases turn1 j k H12 w12 with ⟨stop1, nx1⟩ | ⟨go1, Nx1, hNx1, step1⟩
          · refine thnF (T1.done (X.blk s3 H3 scope ce fp) rfl rfl rfl hc j _ s12 (wipe σ8 vs1) H12 (fun _ _ => False) I12 (stat1 n12) st12 stop1) fun r s13 ⟨hr, I13⟩ => ?_
            subst hr
            exact fin I13 (hl8.trans (wipe_length σ8 vs1).symm) hk9 nx1
          · refine thnF (T1.item (X.blk s3 H3 scope ce fp) rfl rfl rfl hc j _ s12 (wipe σ8 vs1) H12 (fun _ _ => False) I12 (stat1 n12) st12 go1) fun r s13 ⟨u1, hr, h13⟩ => ?_
            subst hr
            refine thnF h13 fun _ s14 ⟨x1, H14, I14, r14, y14, st14, n14⟩ => ?_
            refine thnF (pg1.run _ s14 (wipe σ8 vs1) H14 x1 u1 _ (I14.pinned (stat1 n14) (T1.obj _ _ st14)) r14 (step1 x1 H14 y14)) fun _ s15 ⟨σ15, H15, I15, hw15, q15⟩ => ?_
            refine thnF (pt1.run _ s15 σ15 H15 _ I15 q15) fun b1 s16 ⟨H16, I16, q16⟩ => ?_
            have fin1 : ∀ {s' : Shared} {H' : Hp}, L2.Inv (X.blk s3 H3 scope ce fp) (([] ++ pinsAt fp s7.heap) ++ pinsAt fp1 s14.heap) σ15 H' s' → Nx1 H' → ∃ m, m < k ∧ ∃ j H', L2.Inv (X.blk s3 H3 scope ce fp) ([] ++ pinsAt fp s7.heap) (wipe σ8 vs1) H' s' ∧ tn1 j s'.heap ∧ (∀ b ∈ fp1, H' b = none) ∧ W1 j m H' := fun {s' H'} I' nx => by
              obtain ⟨m', hm, w'⟩ := hNx1 H' nx
              have pin' : ∀ b ∈ fp1, ∀ o, s14.heap.get? b = some o → s'.heap.get? b = some o ∧ H' b = none := fun b hb o e => let z := I'.pin (b, o) (List.mem_append_right _ (List.mem_append_right _ (mem_pinsAt hb e))); ⟨z.1, z.2.1⟩
              refine ⟨m', hm, j + 1, H', I'.unpinned.weak (by rw [← hw15, wipe_length]) (fun j v e => by rw [← hw15] at e; exact (wipe_some e).1), T1.keep _ _ _ st14 fun b hb o e => (pin' b hb o e).1, fun b hb => ?_, w'⟩
              obtain ⟨o, e, _⟩ := T1.obj _ _ st14 b hb
              exact (pin' b hb o e).2
            cases b1 with
            | false =>
              simp only [Bool.false_eq_true, if_false] at q16 ⊢
              exact fin1 I16 q16
            | true =>
              simp only [if_true] at q16 ⊢
              refine thnF (pk.run _ s16 σ15 H16 _ I16 q16) fun z s17 ⟨yk, H17, I17, r17, q17⟩ => ?_
              refine thnF (pe.run _ s17 σ15 H17 _ I17 q17) fun z2 s18 ⟨yv, H18, I18, r18, kvs, kk, ek, hD18, hz18, nx⟩ => ?_
              subst ek
              exact d_dictSet (X := X.blk s3 H3 scope ce fp) I18 hD18 hz18 r17 r18 fun s19 I19 => fin1 I19 nx
        exact startD1_ok loop1 (T1.self X.A 0 _ _ _ st11 loop1)
  exact codeAny_compStart_dict loop (T.self X.A 0 _ _ _ st4 loop)
theorem pe_dc2 {kx vx tg iter tg1 iter1 : Expr} {ifs ifs1 : List Expr} {scope : Scope} {own : List (Str × Nat)} {vs1 : List Nat} {pos : Pos} {wi wi1 : TI} {g g1 : TG} {tt tt1 : TT} {tk tv : TE} (hc : X.calm = true) (hN : X.N.Nodup) (hi : PI X tg iter wi) (ok : BlkOk X.N X.env.scope scope own) (hv : ∀ i ∈ vs1, i ∈ own.map (·.2))
    (hg : ∀ (s : Shared) (H : Hp) (C : Addr) (cl : List (Str × Addr)) (fp : List Addr), PG (X.blk s H scope (compEnvC scope cl C X.env) fp) tg g)
    (ht : ∀ (s : Shared) (H : Hp) (C : Addr) (cl : List (Str × Addr)) (fp : List Addr), PTs (X.blk s H scope (compEnvC scope cl C X.env) fp) ifs tt)
    (hi1 : ∀ (s : Shared) (H : Hp) (C : Addr) (cl : List (Str × Addr)) (fp : List Addr), PI (X.blk s H scope (compEnvC scope cl C X.env) fp) tg1 iter1 wi1)
    (hg1 : ∀ (s : Shared) (H : Hp) (C : Addr) (cl : List (Str × Addr)) (fp : List Addr), PG (X.blk s H scope (compEnvC scope cl C X.env) fp) tg1 g1)
    (ht1 : ∀ (s : Shared) (H : Hp) (C : Addr) (cl : List (Str × Addr)) (fp : List Addr), PTs (X.blk s H scope (compEnvC scope cl C X.env) fp) ifs1 tt1)
    (hk : ∀ (s : Shared) (H : Hp) (C : Addr) (cl : List (Str × Addr)) (fp : List Addr), PE (X.blk s H scope (compEnvC scope cl C X.env) fp) kx tk)
    (he : ∀ (s : Shared) (H : Hp) (C : Addr) (cl : List (Str × Addr)) (fp : List Addr), PE (X.blk s H scope (compEnvC scope cl C X.env) fp) vx tv)
    (hs : ∀ x, foldedSetIterable iter X.env x = pure x := by intro _; rfl) (hs1 : ∀ env x, foldedSetIterable iter1 env x = pure x := by intro _ _; rfl) :
    PE X (.DictComp kx vx [⟨tg, iter, ifs, 0⟩, ⟨tg1, iter1, ifs1, 0⟩] scope pos) (tDc2 wi g tt wi1 g1 tt1 tk tv (own.map (·.2)) vs1) := by
  refine ⟨fun pins s σ H Q I h => ?_⟩
  rw [arm_eval_DictComp]
  refine dc2_core hc hN I hi ok hv hg ht hk he hi1 hg1 ht1 hs hs1 h fun D C s' m H' I' q hn ⟨f0, f1, f2, f3, f4, f5⟩ => ⟨m, hn, fun h'' sb => ?_⟩
  exact ⟨.ref D, H', I'.turned (t' := s'.toks) (fun b o hb e => (sb.2 b hb).trans e) f0 f1 f3 f4 f5, rfl, q⟩
end
/-- several things locked, one behind the other -/
def tLockN : Nat → TE → TE
  | 0, t => t
  | n + 1, t => tLockE (tLockN n t)
theorem pe_lockN {X : Cx} {e : Expr} {t : TE} (h : PE X e t) : ∀ n : Nat, PE X e (tLockN n t)
  | 0 => h
  | n + 1 => pe_lock (pe_lockN h n)
def tLocks (t : TE) : TE := fun σ H Q => ∃ n, tLockN n t σ H Q
theorem pe_locks {X : Cx} {e : Expr} {t : TE} (h : PE X e t) : PE X e (tLocks t) := ⟨fun pins s σ H Q I ⟨n, hn⟩ => (pe_lockN h n).run pins s σ H Q I hn⟩
def rLenD : List V → Hp → VK → Prop := fun xs H Q => ∃ a kvs, xs = [V.ref a] ∧ H a = some (.dK kvs) ∧ Q (.int kvs.length) H
theorem call_lenD2 {X : Cx} : CallR X (.builtin "len") rLenD := call_lenD
def rListT : List V → Hp → VK → Prop := fun xs H Q => ∃ d kvs, xs = [V.ref d] ∧ Rd H d (.dT kvs) ∧ ∀ p bs, H p = none → IsKeys H kvs bs → Q (.ref p) (upd H p (.lst (bs.map V.ref)))
theorem call_list_dT2 {X : Cx} (hc : X.calm = true) : CallR X (.type "list") rListT := call_list_dT hc
end XB

/-! ## Prog, part A: heaps, lists side by side, comprehensions -/
namespace SY
open PySem PySem.Spec PyProof.Rows L2 XB
/-! ### two lists side by side -/
abbrev All2 {α β : Type} (R : α → β → Prop) : List α → List β → Prop := Paired R
section
variable {α β γ : Type} {R R' : α → β → Prop} {xs : List α} {ys : List β}
theorem All2.imp {α β : Type} {R R' : α → β → Prop} {xs : List α} {ys : List β} (h : All2 R xs ys) (f : ∀ a b, a ∈ xs → b ∈ ys → R a b → R' a b) : All2 R' xs ys := by
  induction h with
  | nil => exact .nil
  | cons r t ih => exact .cons (f _ _ List.mem_cons_self List.mem_cons_self r) (ih fun a b ha hb => f a b (List.mem_cons_of_mem _ ha) (List.mem_cons_of_mem _ hb))
theorem All2.get {α β : Type} {R : α → β → Prop} : ∀ {xs : List α} {ys : List β} {i : Nat} {a : α}, All2 R xs ys → xs[i]? = some a → ∃ b, ys[i]? = some b ∧ R a b
  | _, _, 0, _, .cons r _, h => ⟨_, rfl, by cases h; exact r⟩
  | _, _, i + 1, a, .cons _ t, h => All2.get (i := i) t (by simpa using h)
theorem All2.get2 {α β : Type} {R : α → β → Prop} : ∀ {xs : List α} {ys : List β} {i : Nat} {b : β}, All2 R xs ys → ys[i]? = some b → ∃ a, xs[i]? = some a ∧ R a b
  | _, _, 0, _, .cons r _, h => ⟨_, rfl, by cases h; exact r⟩
  | _, _, i + 1, b, .cons _ t, h => All2.get2 (i := i) t (by simpa using h)
theorem All2.append {α β : Type} {R : α → β → Prop} : ∀ {xs xs' : List α} {ys ys' : List β}, All2 R xs ys → All2 R xs' ys' → All2 R (xs ++ xs') (ys ++ ys')
  | _, _, _, _, .nil, h => h
  | _, _, _, _, .cons r t, h => .cons r (All2.append t h)
theorem All2.one {α β : Type} {R : α → β → Prop} {a : α} {b : β} (h : R a b) : All2 R [a] [b] := .cons h .nil
theorem All2.set {α β : Type} {R : α → β → Prop} {a : α} {b : β} (r : R a b) : ∀ {xs : List α} {ys : List β} (i : Nat), All2 R xs ys → All2 R (xs.set i a) (ys.set i b)
  | _, _, _, .nil => .nil
  | _, _, 0, .cons _ t => .cons r t
  | _, _, i + 1, .cons q t => .cons q (All2.set r i t)
theorem All2.mem {α β : Type} {R : α → β → Prop} {xs : List α} {ys : List β} {a : α} (h : All2 R xs ys) (ha : a ∈ xs) : ∃ b, b ∈ ys ∧ R a b := by
  obtain ⟨i, hi⟩ := List.getElem?_of_mem ha
  obtain ⟨b, hb, r⟩ := h.get hi
  exact ⟨b, List.mem_of_getElem? hb, r⟩
theorem All2.len {α β : Type} {R : α → β → Prop} {xs : List α} {ys : List β} (h : All2 R xs ys) : xs.length = ys.length := Paired.length h
theorem All2.nil_iff {α β : Type} {R : α → β → Prop} {xs : List α} {ys : List β} (h : All2 R xs ys) : xs = [] ↔ ys = [] := by
  cases h <;> simp
/-- the left ones whose right ones pass -/
def keep2 {α β : Type} (p : β → Bool) : List α → List β → List α
  | a :: xs, b :: ys => if p b = true then a :: keep2 p xs ys else keep2 p xs ys
  | _, _ => []
theorem keep2_all {α β : Type} {R : α → β → Prop} (p : β → Bool) : ∀ {xs : List α} {ys : List β}, All2 R xs ys → All2 R (keep2 p xs ys) (ys.filter p)
  | _, _, .nil => .nil
  | _, b :: _, .cons r t => by
    unfold keep2
    cases h : p b with
    | true => rw [if_pos rfl, List.filter_cons_of_pos h]; exact .cons r (keep2_all p t)
    | false => rw [if_neg Bool.false_ne_true, List.filter_cons_of_neg (by simp [h])]; exact keep2_all p t
theorem keep2_sub {α β : Type} (p : β → Bool) : ∀ (xs : List α) (ys : List β), (keep2 p xs ys).Sublist xs
  | [], _ => by simp [keep2]
  | _ :: _, [] => by simp [keep2]
  | a :: xs, b :: ys => by
    unfold keep2
    split
    · exact (keep2_sub p xs ys).cons₂ a
    · exact (keep2_sub p xs ys).cons a
end

/-! ### heaps -/
/-- all is kept but what stands at A -/
def Kp (A : Addr → Prop) (H H' : Hp) : Prop := ∀ b o, H b = some o → ¬ A b → H' b = some o
section
variable {A B : Addr → Prop} {H H1 H2 : Hp} {a b p : Addr} {o u : HO}
theorem Kp.same (h : Same H H1) : Kp A H H1 := fun b o e _ => h b o e
theorem Kp.trans (h : Kp A H H1) (k : Kp A H1 H2) : Kp A H H2 := fun b o e n => k b o (h b o e n) n
theorem Kp.mono (h : Kp A H H1) (k : ∀ b, H b ≠ none → A b → B b) : Kp B H H1 := fun b o e n => h b o e fun z => n (k b (by rw [e]; simp) z)
theorem Kp.toSame (h : Kp A H H1) (k : ∀ b o, H b = some o → ¬ A b) : Same H H1 := fun b o e => h b o e (k b o e)
theorem same_upd (h : H p = none) : Same H (upd H p o) := fun b u e => by
  rw [upd_ne (ne_of_none e h)]
  exact e
theorem upd_new (s : Same H H1) (h : H p = none) : Same H (upd H1 p o) := fun b u e => by
  rw [upd_ne (ne_of_none e h)]
  exact s b u e
theorem kp_upd (h : H a = some u) : Kp (fun b => b = a) H (upd H a o) := fun b v e n => by
  rw [upd_ne n]
  exact e
theorem Kp.upd (k : Kp A H H1) (h : A a ∨ H a = none) : Kp A H (upd H1 a o) := fun b v e n => by
  have hn : b ≠ a := fun z => by
    rcases h with h | h
    · exact n (z ▸ h)
    · rw [z, h] at e
      cases e
  rw [upd_ne hn]
  exact k b v e n
theorem Kp.at (k : Kp A H H1) (e : H b = some o) (n : ¬ A b) : H1 b = some o := k b o e n
theorem Kp.none (k : Kp A H H1) (h : H1 b = none) (n : ¬ A b) : H b = Option.none := by
  cases e : H b with
  | none => rfl
  | some o =>
    rw [k b o e n] at h
    cases h
theorem same_none (k : Same H H1) (h : H1 b = none) : H b = none := k.free h
theorem ne_lst_tup {xs ys : List V} (h : H a = some (.lst xs)) (h' : H b = some (.tup ys)) : b ≠ a := ne_of h' h (by intro z; cases z)
theorem ne_lst_ins {xs : List V} {C dx : Addr} {fs : List (Str × V)} (h : H a = some (.lst xs)) (h' : H b = some (.ins C dx fs)) : b ≠ a := ne_of h' h (by intro z; cases z)
theorem ne_ins_lst {xs : List V} {C dx : Addr} {fs : List (Str × V)} (h : H a = some (.ins C dx fs)) (h' : H b = some (.lst xs)) : b ≠ a := ne_of h' h (by intro z; cases z)
theorem ne_ins_tup {xs : List V} {C dx : Addr} {fs : List (Str × V)} (h : H a = some (.ins C dx fs)) (h' : H b = some (.tup xs)) : b ≠ a := ne_of h' h (by intro z; cases z)
theorem ne_ins_ins {C D dx dy : Addr} {fs gs : List (Str × V)} (n : C ≠ D) (h : H a = some (.ins C dx fs)) (h' : H b = some (.ins D dy gs)) : b ≠ a := ne_of h' h (by intro z; cases z; exact n rfl)
end
theorem sz_ok {n : Nat} (h : n ≤ 16000000) : n ≤ sizeLine := Nat.le_trans h (by decide)
theorem sz_lt {n : Nat} (h : n ≤ 16000000) : n < sizeLine := Nat.lt_of_le_of_lt h (by decide)
theorem ixN_of {n j : Nat} (h : j < n) : ixN n (j : Int) = some j := by
  unfold ixN
  rw [if_pos (by omega), if_pos (by omega)]
  simp
theorem atI_of {α : Type} {xs : List α} {j : Nat} {v : α} (h : xs[j]? = some v) : atI xs (j : Int) = some v := by
  unfold atI
  rw [ixN_of (List.getElem?_eq_some_iff.mp h).1]
  exact h
theorem atI_last {α : Type} {xs : List α} {v : α} (h : xs.getLast? = some v) : atI xs (-1) = some v := by
  have hne : xs ≠ [] := by
    rintro rfl
    cases h
  have hl : 0 < xs.length := List.length_pos_iff.mpr hne
  unfold atI ixN
  rw [if_neg (by omega), if_pos (by omega)]
  show xs[(-1 + (xs.length : Int)).toNat]? = some v
  rw [show (-1 + (xs.length : Int)).toNat = xs.length - 1 by omega, ← List.getLast?_eq_getElem?]
  exact h

/-! ### comprehensions -/
section
variable {K : PySem.W.Frag} {σ : L2.St} {H : Hp} {Qd : Addr → Hp → Prop} {a : Addr} {xs : List V} {i : Nat} {tt : TT} {te : TE}
/-- [e for x in l if t]: what e tells is P, wherever the heap has grown; what was tracked stays -/
theorem comp_all (b : V → Bool) (P : Addr → V → V → Hp → Prop) (hP : ∀ D x v H1 H2, (∀ b o, H1 b = some o → b ≠ D → H2 b = some o) → P D x v H1 → P D x v H2) (hl : SqL K H a xs) (hz : xs.length ≤ 16000000) (hi : i < σ.length)
    (ht : ∀ x ∈ xs, ∀ H1, Same H H1 → ∀ R : Bool → Hp → Prop, (∀ H2, Same H1 H2 → R (b x) H2) → tt ((wipe σ [i]).set i (some x)) H1 R)
    (he : ∀ D acc, H D = none → ∀ x ∈ xs, b x = true → ∀ H1, Same H H1 → H1 D = some (.lst acc) → ∀ R : VK, (∀ v H2, Same H1 H2 → P D x v H2 → R v H2) → te ((wipe σ [i]).set i (some x)) H1 R)
    (k : ∀ p vs H1, H p = none → Same H H1 → H1 p = some (.lst vs) → All2 (fun x v => P p x v H1) (xs.filter b) vs → Qd p H1) :
    ∀ D, H D = none → ∃ W : Nat → Nat → Hp → Prop, (∃ m, W 0 m (upd H D (.lst []))) ∧ ∀ n m H, W n m H →
      ((Itl K a).stop n H ∧ Qd D H) ∨ ((Itl K a).go n H ∧ ∃ Nx : Hp → Prop, (∀ H', Nx H' → ∃ m', m' < m ∧ W (n + 1) m' H') ∧ ∀ x H', (Itl K a).yld n H x H' → gName i x (wipe σ [i]) H' fun σ2 H2 => wipe σ2 [i] = wipe σ [i] ∧ tt σ2 H2 fun b H3 =>
        if b = true then te σ2 H3 fun y H4 => ∃ acc, H4 D = some (.lst acc) ∧ acc.length < sizeLine ∧ Nx (upd H4 D (.lst (acc ++ [y]))) else Nx H3) := by
  intro D hD
  have w1 : ∀ x, wipe ((wipe σ [i]).set i (some x)) [i] = wipe σ [i] := fun x => by
    simp [wipe]
  refine lc_list (K := K) (a := a) (xs := xs) (fun n H1 => Same H H1 ∧ ∃ vs, H1 D = some (.lst vs) ∧ All2 (fun x v => P D x v H1) ((xs.take n).filter b) vs) ⟨same_upd hD, [], upd_same, by simpa using Paired.nil⟩ (fun n H1 _ h => h.1.seq hl) ?_ ?_
  · rintro n x H1 hx ⟨s1, vs, hv, hA⟩
    have hm := List.mem_of_getElem? hx
    have etk : xs.take (n + 1) = xs.take n ++ [x] := by
      rw [List.take_add_one, hx]
      rfl
    refine ⟨w1 x, ht x hm H1 s1 _ fun H2 s2 => ?_⟩
    have hv2 := s2 _ _ hv
    cases hb : b x with
    | false =>
      rw [if_neg Bool.false_ne_true]
      refine ⟨s1.trans s2, vs, hv2, ?_⟩
      rw [etk, List.filter_append]
      simp only [List.filter_cons, hb, Bool.false_eq_true, if_false, List.filter_nil, List.append_nil]
      exact hA.imp fun x v _ _ h => hP D x v _ _ (fun b o e _ => s2 b o e) h
    | true =>
      rw [if_pos rfl]
      refine he D vs hD x hm hb H2 (s1.trans s2) hv2 _ fun v H3 s3 hv3 => ?_
      have hvs := s3 _ _ hv2
      have len : vs.length ≤ xs.length := by
        rw [← hA.len]
        exact Nat.le_trans (List.length_filter_le _ _) (by simp; omega)
      refine ⟨vs, hvs, sz_lt (Nat.le_trans len hz), ?_⟩
      have s4 : Same H (upd H3 D (.lst (vs ++ [v]))) := upd_new ((s1.trans s2).trans s3) hD
      refine ⟨s4, vs ++ [v], upd_same, ?_⟩
      rw [etk, List.filter_append]
      simp only [List.filter_cons, hb, if_true, List.filter_nil]
      have kd : ∀ c o, H3 c = some o → c ≠ D → (upd H3 D (.lst (vs ++ [v]))) c = some o := fun c o e n => by
        rw [upd_ne n]
        exact e
      exact (hA.imp fun x v _ _ h => hP D x v _ _ kd (hP D x v _ _ (fun b o e _ => (s2.trans s3) b o e) h)).append (.one (hP D x v _ _ kd hv3))
  · rintro H1 ⟨s1, vs, hv, hA⟩
    rw [List.take_length] at hA
    exact k D vs H1 hD s1 hv hA
/-- .. where nothing is made on the way -/
theorem comp_pure (b : V → Bool) (g : V → V) (hl : SqL K H a xs) (hz : xs.length ≤ 16000000) (hi : i < σ.length)
    (ht : ∀ x ∈ xs, ∀ H1, Same H H1 → ∀ R : Bool → Hp → Prop, (∀ H2, Same H1 H2 → R (b x) H2) → tt ((wipe σ [i]).set i (some x)) H1 R)
    (he : ∀ x ∈ xs, b x = true → ∀ H1, Same H H1 → ∀ R : VK, (∀ H2, Same H1 H2 → R (g x) H2) → te ((wipe σ [i]).set i (some x)) H1 R)
    (k : ∀ p H1, H p = none → Same H H1 → H1 p = some (.lst ((xs.filter b).map g)) → Qd p H1) :
    ∀ D, H D = none → ∃ W : Nat → Nat → Hp → Prop, (∃ m, W 0 m (upd H D (.lst []))) ∧ ∀ n m H, W n m H →
      ((Itl K a).stop n H ∧ Qd D H) ∨ ((Itl K a).go n H ∧ ∃ Nx : Hp → Prop, (∀ H', Nx H' → ∃ m', m' < m ∧ W (n + 1) m' H') ∧ ∀ x H', (Itl K a).yld n H x H' → gName i x (wipe σ [i]) H' fun σ2 H2 => wipe σ2 [i] = wipe σ [i] ∧ tt σ2 H2 fun b H3 =>
        if b = true then te σ2 H3 fun y H4 => ∃ acc, H4 D = some (.lst acc) ∧ acc.length < sizeLine ∧ Nx (upd H4 D (.lst (acc ++ [y]))) else Nx H3) := by
  refine comp_all b (fun _ x v _ => v = g x) (fun _ _ _ _ _ _ h => h) hl hz hi ht (fun D acc _ x hx hb H1 s1 _ R r => he x hx hb H1 s1 R fun H2 s2 => r _ H2 s2 rfl) fun p vs H1 hp s1 hv hA => ?_
  have e : ∀ {xs vs : List V}, All2 (fun x v => v = g x) xs vs → vs = xs.map g := fun {xs vs} h => by
    induction h with
    | nil => rfl
    | cons r t ih => rw [r, ih] <;> rfl
  rw [e hA] at hv
  exact k p H1 hp s1 hv
end
/-! ### comprehensions over lists of objects, told side by side -/
theorem keep2_append {α β : Type} (p : β → Bool) : ∀ {as bs : List α} {xs ys : List β}, as.length = xs.length → keep2 p (as ++ bs) (xs ++ ys) = keep2 p as xs ++ keep2 p bs ys
  | [], _, [], _, _ => by simp [keep2]
  | a :: as, bs, x :: xs, ys, h => by
    simp only [List.cons_append, keep2]
    rw [keep2_append p (Nat.succ.inj h)]
    split <;> rfl
  | [], _, _ :: _, _, h => by cases h
  | _ :: _, _, [], _, h => by cases h
theorem keep2_len {α β : Type} (p : β → Bool) (as : List α) (xs : List β) : (keep2 p as xs).length ≤ as.length := (keep2_sub p as xs).length_le
theorem keep2_all2 {α β : Type} {R : α → β → Prop} {p : β → Bool} : ∀ {as : List α} {xs : List β}, All2 R as xs → ∀ {a : α}, a ∈ keep2 p as xs → ∃ x, x ∈ xs ∧ p x = true ∧ R a x
  | _, _, .nil, a, h => by simp [keep2] at h
  | _, _, .cons (a := b) (b := y) r t, a, h => by
    unfold keep2 at h
    cases hp : p y with
    | true =>
      rw [if_pos hp, List.mem_cons] at h
      rcases h with rfl | h
      · exact ⟨y, List.mem_cons_self, hp, r⟩
      · obtain ⟨x, hx, q⟩ := keep2_all2 t h
        exact ⟨x, List.mem_cons_of_mem _ hx, q⟩
    | false =>
      rw [if_neg (by simp [hp])] at h
      obtain ⟨x, hx, q⟩ := keep2_all2 t h
      exact ⟨x, List.mem_cons_of_mem _ hx, q⟩
section
variable {K : PySem.W.Frag} {σ : L2.St} {H : Hp} {Qd : Addr → Hp → Prop} {l : Addr} {as : List Addr} {i : Nat} {tt : TT} {te : TE} {β : Type} {ys : List β} {R : Addr → β → Prop}
theorem take_one {α : Type} {xs : List α} {n : Nat} {x : α} (h : xs[n]? = some x) : xs.take (n + 1) = xs.take n ++ [x] := by
  rw [List.take_add_one, h]
  rfl
/-- [x for x in l if t] -/
theorem comp_keep (pr : β → Bool) (hA : All2 R as ys) (hl : SqL K H l (as.map V.ref)) (hz : as.length ≤ 16000000) (hi : i < σ.length)
    (ht : ∀ a y, a ∈ as → R a y → ∀ H1, Same H H1 → ∀ Rb : Bool → Hp → Prop, (∀ H2, Same H1 H2 → Rb (pr y) H2) → tt ((wipe σ [i]).set i (some (.ref a))) H1 Rb)
    (k : ∀ p H1, H p = none → Same H H1 → H1 p = some (.lst ((keep2 pr as ys).map V.ref)) → Qd p H1) :
    ∀ D, H D = none → ∃ W : Nat → Nat → Hp → Prop, (∃ m, W 0 m (upd H D (.lst []))) ∧ ∀ n m H, W n m H →
      ((Itl K l).stop n H ∧ Qd D H) ∨ ((Itl K l).go n H ∧ ∃ Nx : Hp → Prop, (∀ H', Nx H' → ∃ m', m' < m ∧ W (n + 1) m' H') ∧ ∀ x H', (Itl K l).yld n H x H' → gName i x (wipe σ [i]) H' fun σ2 H2 => wipe σ2 [i] = wipe σ [i] ∧ tt σ2 H2 fun b H3 =>
        if b = true then tVar i σ2 H3 fun y H4 => ∃ acc, H4 D = some (.lst acc) ∧ acc.length < sizeLine ∧ Nx (upd H4 D (.lst (acc ++ [y]))) else Nx H3) := by
  intro D hD
  have w1 : ∀ x, wipe ((wipe σ [i]).set i (some x)) [i] = wipe σ [i] := fun x => by
    simp [wipe]
  have len := hA.len
  refine lc_list (K := K) (a := l) (xs := as.map V.ref) (fun n H1 => Same H H1 ∧ H1 D = some (.lst ((keep2 pr (as.take n) (ys.take n)).map V.ref))) ⟨same_upd hD, by rw [upd_same]; simp [keep2]⟩ (fun n H1 _ h => h.1.seq hl) ?_ ?_
  · rintro n x H1 hx ⟨s1, hv⟩
    rw [List.getElem?_map] at hx
    obtain ⟨a, ha, rfl⟩ := Option.map_eq_some_iff.mp hx
    obtain ⟨y, hy, r⟩ := hA.get ha
    refine ⟨w1 _, ht a y (List.mem_of_getElem? ha) r H1 s1 _ fun H2 s2 => ?_⟩
    have hv2 := s2 _ _ hv
    have e : keep2 pr (as.take (n + 1)) (ys.take (n + 1)) = keep2 pr (as.take n) (ys.take n) ++ keep2 pr [a] [y] := by
      rw [take_one ha, take_one hy, keep2_append pr (by rw [List.length_take, List.length_take, len])]
    cases hb : pr y with
    | false =>
      rw [if_neg Bool.false_ne_true]
      refine ⟨s1.trans s2, ?_⟩
      rw [e, hv2]
      simp [keep2, hb]
    | true =>
      rw [if_pos rfl]
      refine ⟨_, by rw [List.getElem?_set_self (by simp [wipe]; exact hi)], _, hv2, sz_lt ?_, upd_new (s1.trans s2) hD, ?_⟩
      · rw [List.length_map]
        refine Nat.le_trans (keep2_len _ _ _) (Nat.le_trans ?_ hz)
        rw [List.length_take]
        omega
      · rw [upd_same, e]
        simp [keep2, hb]
  · rintro H1 ⟨s1, hv⟩
    rw [List.length_map, List.take_length, len, List.take_length] at hv
    exact k D H1 hD s1 hv
/-- [e for x in l] -/
theorem comp_make (P : Addr → β → V → Hp → Prop) (hP : ∀ D y v H1 H2, (∀ b o, H1 b = some o → b ≠ D → H2 b = some o) → P D y v H1 → P D y v H2) (hA : All2 R as ys) (hl : SqL K H l (as.map V.ref)) (hz : as.length ≤ 16000000) (hi : i < σ.length)
    (he : ∀ D acc, H D = none → ∀ a y, a ∈ as → R a y → ∀ H1, Same H H1 → H1 D = some (.lst acc) → ∀ Rk : VK, (∀ v H2, Same H1 H2 → P D y v H2 → Rk v H2) → te ((wipe σ [i]).set i (some (.ref a))) H1 Rk)
    (k : ∀ p vs H1, H p = none → Same H H1 → H1 p = some (.lst vs) → All2 (fun y v => P p y v H1) ys vs → Qd p H1) :
    ∀ D, H D = none → ∃ W : Nat → Nat → Hp → Prop, (∃ m, W 0 m (upd H D (.lst []))) ∧ ∀ n m H, W n m H →
      ((Itl K l).stop n H ∧ Qd D H) ∨ ((Itl K l).go n H ∧ ∃ Nx : Hp → Prop, (∀ H', Nx H' → ∃ m', m' < m ∧ W (n + 1) m' H') ∧ ∀ x H', (Itl K l).yld n H x H' → gName i x (wipe σ [i]) H' fun σ2 H2 => wipe σ2 [i] = wipe σ [i] ∧ tYes σ2 H2 fun b H3 =>
        if b = true then te σ2 H3 fun y H4 => ∃ acc, H4 D = some (.lst acc) ∧ acc.length < sizeLine ∧ Nx (upd H4 D (.lst (acc ++ [y]))) else Nx H3) := by
  intro D hD
  have w1 : ∀ x, wipe ((wipe σ [i]).set i (some x)) [i] = wipe σ [i] := fun x => by
    simp [wipe]
  have len := hA.len
  refine lc_list (K := K) (a := l) (xs := as.map V.ref) (fun n H1 => Same H H1 ∧ ∃ vs, H1 D = some (.lst vs) ∧ All2 (fun y v => P D y v H1) (ys.take n) vs) ⟨same_upd hD, [], upd_same, by rw [List.take_zero]; exact .nil⟩ (fun n H1 _ h => h.1.seq hl) ?_ ?_
  · rintro n x H1 hx ⟨s1, vs, hv, hB⟩
    rw [List.getElem?_map] at hx
    obtain ⟨a, ha, rfl⟩ := Option.map_eq_some_iff.mp hx
    obtain ⟨y, hy, r⟩ := hA.get ha
    refine ⟨w1 _, ?_⟩
    unfold tYes
    dsimp only
    rw [if_pos rfl]
    refine he D vs hD a y (List.mem_of_getElem? ha) r H1 s1 hv _ fun v H2 s2 hp => ?_
    have hv2 := s2 _ _ hv
    refine ⟨vs, hv2, sz_lt ?_, upd_new (s1.trans s2) hD, vs ++ [v], upd_same, ?_⟩
    · rw [← hB.len, List.length_take]
      omega
    · rw [take_one hy]
      have kd : ∀ b o, H2 b = some o → b ≠ D → (upd H2 D (.lst (vs ++ [v]))) b = some o := fun b o e n => by
        rw [upd_ne n]
        exact e
      exact (hB.imp fun y v _ _ h => hP D y v _ _ kd (hP D y v _ _ (fun b o e _ => s2 b o e) h)).append (.one (hP D y v _ _ kd hp))
  · rintro H1 ⟨s1, vs, hv, hB⟩
    rw [List.length_map, len, List.take_length] at hB
    exact k D vs H1 hD s1 hv hB
end
end SY

/-! ## Prog, part B: states, what stands in the heap, disks -/
namespace SY
open PySem PySem.Spec PyProof.Rows L2 XB
/-! ### the classes' facts -/
structure PF (K : PySem.W.Frag) : Prop where
  cl_Disk : Cls K (He.ga K "Disk")
  cl_Request : Cls K (He.ga K "Request")
  cl_Queue : Cls K (He.ga K "Queue")
  cl_Frame : Cls K (He.ga K "Frame")
  cl_Store : Cls K (He.ga K "Store")
  na_Disk_sure : NoAttr K (He.ga K "Disk") "sure"
  na_Disk_open_lots : NoAttr K (He.ga K "Disk") "open_lots"
  na_Disk_left : NoAttr K (He.ga K "Disk") "left"
  na_Request_count : NoAttr K (He.ga K "Request") "count"
  na_Request_spot : NoAttr K (He.ga K "Request") "spot"
  na_Request_number : NoAttr K (He.ga K "Request") "number"
  na_Request_seen : NoAttr K (He.ga K "Request") "seen"
  na_Queue_patience : NoAttr K (He.ga K "Queue") "patience"
  na_Queue_row : NoAttr K (He.ga K "Queue") "row"
  na_Queue_put_so_far : NoAttr K (He.ga K "Queue") "put_so_far"
  na_Queue_spot : NoAttr K (He.ga K "Queue") "spot"
  na_Frame_spot : NoAttr K (He.ga K "Frame") "spot"
  na_Frame_number : NoAttr K (He.ga K "Frame") "number"
  na_Frame_dirty : NoAttr K (He.ga K "Frame") "dirty"
  na_Store_disk : NoAttr K (He.ga K "Store") "disk"
  na_Store_most_frames : NoAttr K (He.ga K "Store") "most_frames"
  na_Store_most_dirty : NoAttr K (He.ga K "Store") "most_dirty"
  na_Store_frames : NoAttr K (He.ga K "Store") "frames"
  na_Store_waiting : NoAttr K (He.ga K "Store") "waiting"
  io_Disk : InsOk K (He.ga K "Disk")
  ki_Disk : PySem.W.kitOne K (.ref (He.ga K "Disk")) (.ref (He.ga K "Disk")) = some true
  ne_Disk_Request : He.ga K "Disk" ≠ He.ga K "Request"
  ne_Disk_Queue : He.ga K "Disk" ≠ He.ga K "Queue"
  ne_Disk_Frame : He.ga K "Disk" ≠ He.ga K "Frame"
  ne_Disk_Store : He.ga K "Disk" ≠ He.ga K "Store"
  ne_Request_Queue : He.ga K "Request" ≠ He.ga K "Queue"
  ne_Request_Frame : He.ga K "Request" ≠ He.ga K "Frame"
  ne_Request_Store : He.ga K "Request" ≠ He.ga K "Store"
  ne_Queue_Frame : He.ga K "Queue" ≠ He.ga K "Frame"
  ne_Queue_Store : He.ga K "Queue" ≠ He.ga K "Store"
  ne_Frame_Store : He.ga K "Frame" ≠ He.ga K "Store"

/-! ### attributes -/
def diskF (a b c : V) : List (Str × V) := [("sure", a), ("open_lots", b), ("left", c)]
def reqF (a b c d : V) : List (Str × V) := [("count", a), ("spot", b), ("number", c), ("seen", d)]
def queF (a b c d : V) : List (Str × V) := [("patience", a), ("row", b), ("put_so_far", c), ("spot", d)]
def fraF (a b c : V) : List (Str × V) := [("spot", a), ("number", b), ("dirty", c)]
def stoF (a b c d e : V) : List (Str × V) := [("disk", a), ("most_frames", b), ("most_dirty", c), ("frames", d), ("waiting", e)]

/-! ### states -/
structure Dsk where
  sure : List Int
  lots : List (List (Int × Int))
  left : Option Int
structure Rq where
  cnt : Int
  w : Option (Int × Int)
  seen : Int
structure Que where
  pat : Int
  row : List Rq
  put : Int
  arm : Int
structure Fra where
  room : Int
  num : Int
  dirty : Bool
structure Sto where
  mf : Int
  md : Int
  frs : List Fra
  q : Que
  d : Dsk
def leftV : Option Int → V
  | none => .non
  | some n => .int n
def roomV : Option (Int × Int) → V
  | none => .non
  | some p => .int p.1
def numV : Option (Int × Int) → V
  | none => .non
  | some p => .int p.2

/-! ### where they stand -/
structure DL where
  d : Addr
  ls : Addr
  lo : Addr
  lots : List Addr
structure QL where
  q : Addr
  lr : Addr
  rs : List Addr
structure SL where
  st : Addr
  lf : Addr
  fs : List Addr
  q : QL
  d : DL
def TupAt (H : Hp) (t : Addr) (p : Int × Int) : Prop := H t = some (.tup [.int p.1, .int p.2])
def LotAt (H : Hp) (a : Addr) (lot : List (Int × Int)) : Prop := ∃ ts, H a = some (.lst (ts.map V.ref)) ∧ All2 (TupAt H) ts lot
/-! ### ownership: A is what may be changed, A' what is owned behind it -/
structure Step (A A' : List Addr) (H H' : Hp) : Prop where
  kp : ∀ b o, H b = some o → b ∉ A → H' b = some o
  nw : ∀ b, b ∈ A' → b ∈ A ∨ H b = none
  tp : ∀ b xs, H b = some (.tup xs) → H' b = some (.tup xs)
section
variable {A A' A2 B B' : List Addr} {H H1 H2 H' : Hp} {a p : Addr} {o u : HO}
theorem Step.same (A : List Addr) (h : Same H H') : Step A A H H' := ⟨fun b o e _ => h b o e, fun _ z => .inl z, fun b _ e => h b _ e⟩
theorem Step.refl (A : List Addr) (H : Hp) : Step A A H H := Step.same A (Same.refl H)
theorem Step.trans (h : Step A A' H H1) (k : Step A' A2 H1 H2) : Step A A2 H H2 := by
  have q : ∀ b, b ∈ A' → ∀ o, H b = some o → b ∈ A := fun b hb o e => (h.nw b hb).resolve_right (by rw [e]; simp)
  refine ⟨fun b o e n => k.kp b o (h.kp b o e n) fun z => n (q b z o e), fun b hb => ?_, fun b xs e => k.tp b xs (h.tp b xs e)⟩
  rcases k.nw b hb with z | z
  · exact h.nw b z
  · by_cases m : b ∈ A
    · exact .inl m
    · right
      cases e : H b with
      | none => rfl
      | some o =>
        rw [h.kp b o e m] at z
        cases z
theorem Step.frame (h : Step A A' H H') (hA : ∀ b, b ∈ A → b ∈ B) (hB : ∀ b, b ∈ B' → b ∈ A' ∨ b ∈ B) : Step B B' H H' :=
  ⟨fun b o e n => h.kp b o e fun z => n (hA b z), fun b hb => (hB b hb).elim (fun z => (h.nw b z).imp_left (hA b)) .inl, h.tp⟩
theorem Step.upd (h : Step A A' H H1) (ha : H a = none ∨ (a ∈ A ∧ ∀ xs, H1 a ≠ some (.tup xs))) : Step A A' H (upd H1 a o) := by
  refine ⟨fun b v e n => ?_, h.nw, fun b xs e => ?_⟩
  · have hn : b ≠ a := fun z => by
      rcases ha with ha | ha
      · rw [z, ha] at e
        cases e
      · exact n (z ▸ ha.1)
    rw [upd_ne hn]
    exact h.kp b v e n
  · have hn : b ≠ a := fun z => by
      rcases ha with ha | ha
      · rw [z, ha] at e
        cases e
      · exact ha.2 xs (z ▸ h.tp b xs e)
    rw [upd_ne hn]
    exact h.tp b xs e
theorem Step.seq (h : Step A A' H H1) (k : Same H1 H2) : Step A A' H H2 := ⟨fun b o e n => k b o (h.kp b o e n), h.nw, fun b xs e => k b _ (h.tp b xs e)⟩
theorem Step.sub (h : Step A A' H H1) (k : ∀ b, b ∈ A2 → b ∈ A' ∨ H b = none) : Step A A2 H H1 := ⟨h.kp, fun b z => (k b z).elim (h.nw b) .inr, h.tp⟩
theorem Step.at (h : Step A A' H H') (e : H a = some o) (n : a ∉ A) : H' a = some o := h.kp a o e n
theorem Step.made {x dx C : Addr} (nx : H x = none) (nd : H dx = none) : Step [] [x] H (L2.upd (L2.upd H dx (.own x)) x (.ins C dx [])) :=
  ⟨fun b o e _ => by rw [upd_ne (ne_of_none e nx), upd_ne (ne_of_none e nd)]; exact e, fun b z => by simp at z; exact .inr (z ▸ nx), fun b o e => by rw [upd_ne (ne_of_none e nx), upd_ne (ne_of_none e nd)]; exact e⟩
theorem Step.has (h : Step A A' H H') (e : H a ≠ none) (n : a ∉ A) : H' a ≠ none := by
  cases q : H a with
  | none => exact absurd q e
  | some o =>
    rw [h.kp a o q n]
    simp
/-- what is owned stays in one part -/
theorem nd_step (s : Step A A' H H') (h : (A ++ B).Nodup) (n : A'.Nodup) (hB : ∀ b, b ∈ B → H b ≠ none) : (A' ++ B).Nodup := by
  rw [List.nodup_append] at h ⊢
  refine ⟨n, h.2.1, fun a ha b hb e => ?_⟩
  rcases s.nw a ha with z | z
  · exact h.2.2 a z b hb e
  · exact hB b hb (e ▸ z)
theorem tupAt_step {t : Addr} {q : Int × Int} (s : Step A A' H H') (h : TupAt H t q) : TupAt H' t q := s.tp _ _ h
theorem nt_lst {xs ys : List V} (h : H a = some (.lst xs)) : H a ≠ some (.tup ys) := by
  rw [h]
  intro z
  cases z
theorem nt_ins {C dx : Addr} {fs : List (Str × V)} {ys : List V} (h : H a = some (.ins C dx fs)) : H a ≠ some (.tup ys) := by
  rw [h]
  intro z
  cases z
end
structure DiskAt (K : PySem.W.Frag) (H : Hp) (L : DL) (s : Dsk) : Prop where
  ob : ∃ dx, H L.d = some (.ins (He.ga K "Disk") dx (diskF (.ref L.ls) (.ref L.lo) (leftV s.left)))
  ls : H L.ls = some (.lst (s.sure.map V.int))
  lo : H L.lo = some (.lst (L.lots.map V.ref))
  lots : All2 (LotAt H) L.lots s.lots
  nd : (L.d :: L.ls :: L.lo :: L.lots).Nodup
def DL.foot (L : DL) : List Addr := L.d :: L.ls :: L.lo :: L.lots
def ReqAt (K : PySem.W.Frag) (H : Hp) (a : Addr) (r : Rq) : Prop := ∃ dx, H a = some (.ins (He.ga K "Request") dx (reqF (.int r.cnt) (roomV r.w) (numV r.w) (.int r.seen)))
structure QueAt (K : PySem.W.Frag) (H : Hp) (L : QL) (s : Que) : Prop where
  ob : ∃ dx, H L.q = some (.ins (He.ga K "Queue") dx (queF (.int s.pat) (.ref L.lr) (.int s.put) (.int s.arm)))
  lr : H L.lr = some (.lst (L.rs.map V.ref))
  rs : All2 (ReqAt K H) L.rs s.row
  nd : (L.q :: L.lr :: L.rs).Nodup
def QL.foot (L : QL) : List Addr := L.q :: L.lr :: L.rs
def FraAt (K : PySem.W.Frag) (H : Hp) (a : Addr) (f : Fra) : Prop := ∃ dx, H a = some (.ins (He.ga K "Frame") dx (fraF (.int f.room) (.int f.num) (.bl f.dirty)))
structure StoAt (K : PySem.W.Frag) (H : Hp) (L : SL) (s : Sto) : Prop where
  ob : ∃ dx, H L.st = some (.ins (He.ga K "Store") dx (stoF (.ref L.d.d) (.int s.mf) (.int s.md) (.ref L.lf) (.ref L.q.q)))
  lf : H L.lf = some (.lst (L.fs.map V.ref))
  fs : All2 (FraAt K H) L.fs s.frs
  q : QueAt K H L.q s.q
  d : DiskAt K H L.d s.d
  nd : (L.d.foot ++ (L.q.foot ++ (L.st :: L.lf :: L.fs))).Nodup
def SL.foot (L : SL) : List Addr := L.d.foot ++ (L.q.foot ++ (L.st :: L.lf :: L.fs))

section
variable {K : PySem.W.Frag} {H H' : Hp} {A A' : List Addr}
theorem DiskAt.step {L : DL} {s : Dsk} (h : DiskAt K H L s) (k : Step A A' H H') (no : ∀ b, b ∈ L.foot → b ∉ A) : DiskAt K H' L s := by
  have f : ∀ b, b ∈ L.foot → b ∉ A := no
  unfold DL.foot at f
  refine ⟨h.ob.imp fun dx e => k.at e (f _ (by simp)), k.at h.ls (f _ (by simp)), k.at h.lo (f _ (by simp)), h.lots.imp fun a lot ha _ => ?_, h.nd⟩
  rintro ⟨ts, e, t⟩
  exact ⟨ts, k.at e (f _ (by simp [ha])), t.imp fun t p _ _ e => tupAt_step k e⟩
theorem DiskAt.same {L : DL} {s : Dsk} (h : DiskAt K H L s) (k : Same H H') : DiskAt K H' L s := h.step (Step.same [] k) (fun _ _ z => by simp at z)
theorem QueAt.step {L : QL} {s : Que} (h : QueAt K H L s) (k : Step A A' H H') (no : ∀ b, b ∈ L.foot → b ∉ A) : QueAt K H' L s := by
  have f : ∀ b, b ∈ L.foot → b ∉ A := no
  unfold QL.foot at f
  refine ⟨h.ob.imp fun dx e => k.at e (f _ (by simp)), k.at h.lr (f _ (by simp)), h.rs.imp fun a r ha _ e => e.imp fun dx e => k.at e (f _ (by simp [ha])), h.nd⟩
theorem QueAt.same {L : QL} {s : Que} (h : QueAt K H L s) (k : Same H H') : QueAt K H' L s := h.step (Step.same [] k) (fun _ _ z => by simp at z)
theorem StoAt.step {L : SL} {s : Sto} (h : StoAt K H L s) (k : Step A A' H H') (no : ∀ b, b ∈ L.foot → b ∉ A) : StoAt K H' L s := by
  have f : ∀ b, b ∈ L.foot → b ∉ A := no
  unfold SL.foot at f
  refine ⟨h.ob.imp fun dx e => k.at e (f _ (by simp)), k.at h.lf (f _ (by simp)), h.fs.imp fun a r ha _ e => e.imp fun dx e => k.at e (f _ (by simp [ha])), h.q.step k fun b hb => f b (by simp [hb]), h.d.step k (fun b hb => f b (by simp [hb])), h.nd⟩
theorem StoAt.same {L : SL} {s : Sto} (h : StoAt K H L s) (k : Same H H') : StoAt K H' L s := h.step (Step.same [] k) (fun _ _ z => by simp at z)
theorem DiskAt.has {L : DL} {s : Dsk} (h : DiskAt K H L s) {b : Addr} (hb : b ∈ L.foot) : H b ≠ none := by
  unfold DL.foot at hb
  simp only [List.mem_cons] at hb
  rcases hb with rfl | rfl | rfl | hb
  · obtain ⟨dx, e⟩ := h.ob
    simp [e]
  · simp [h.ls]
  · simp [h.lo]
  · obtain ⟨lot, _, ts, e, _⟩ := h.lots.mem hb
    simp [e]
theorem QueAt.has {L : QL} {s : Que} (h : QueAt K H L s) {b : Addr} (hb : b ∈ L.foot) : H b ≠ none := by
  unfold QL.foot at hb
  simp only [List.mem_cons] at hb
  rcases hb with rfl | rfl | hb
  · obtain ⟨dx, e⟩ := h.ob
    simp [e]
  · simp [h.lr]
  · obtain ⟨r, _, dx, e⟩ := h.rs.mem hb
    simp [e]
theorem StoAt.has {L : SL} {s : Sto} (h : StoAt K H L s) {b : Addr} (hb : b ∈ L.foot) : H b ≠ none := by
  unfold SL.foot at hb
  simp only [List.mem_cons, List.mem_append] at hb
  rcases hb with hb | hb | rfl | rfl | hb
  · exact h.d.has hb
  · exact h.q.has hb
  · obtain ⟨dx, e⟩ := h.ob
    simp [e]
  · simp [h.lf]
  · obtain ⟨r, _, dx, e⟩ := h.fs.mem hb
    simp [e]
/-- a store whose disk went on -/
theorem StoAt.withDisk {L : SL} {s : Sto} {D : DL} {d : Dsk} (h : StoAt K H L s) (k : Step L.d.foot D.foot H H') (hd : DiskAt K H' D d) (e : D.d = L.d.d) : StoAt K H' { L with d := D } { s with d := d } ∧ Step L.foot ({ L with d := D } : SL).foot H H' := by
  have nd := h.nd
  rw [List.nodup_append] at nd
  have f : ∀ b, b ∈ L.q.foot ++ (L.st :: L.lf :: L.fs) → b ∉ L.d.foot := fun b hb z => nd.2.2 b z b hb rfl
  refine ⟨⟨h.ob.imp fun dx q => ?_, k.at h.lf (f _ (by simp)), h.fs.imp fun a r ha _ e => e.imp fun dx e => k.at e (f _ (by simp [ha])), h.q.step k fun b hb => f b (by simp [hb]), hd, ?_⟩, ?_⟩
  · show H' L.st = some (.ins _ _ (stoF (.ref D.d) _ _ _ _))
    rw [e]
    exact k.at q (f _ (by simp))
  · exact nd_step k h.nd hd.nd fun b hb => h.has (by unfold SL.foot; simp only [List.mem_append] at hb ⊢; exact .inr hb)
  · refine k.frame (fun b hb => by unfold SL.foot; simp [hb]) fun b hb => ?_
    unfold SL.foot at hb ⊢
    simp only [List.mem_append] at hb ⊢
    rcases hb with hb | hb
    · exact .inl hb
    · exact .inr (.inr hb)
/-- a store whose queue went on -/
theorem StoAt.withQue {L : SL} {s : Sto} {D : QL} {d : Que} (h : StoAt K H L s) (k : Step L.q.foot D.foot H H') (hd : QueAt K H' D d) (e : D.q = L.q.q) : StoAt K H' { L with q := D } { s with q := d } ∧ Step L.foot ({ L with q := D } : SL).foot H H' := by
  have nd : (L.q.foot ++ (L.d.foot ++ (L.st :: L.lf :: L.fs))).Nodup := by
    refine (List.Perm.nodup_iff ?_).mp h.nd
    rw [← List.append_assoc, ← List.append_assoc]
    exact List.perm_append_comm.append_right _
  have nd0 := nd
  rw [List.nodup_append] at nd
  have f : ∀ b, b ∈ L.d.foot ++ (L.st :: L.lf :: L.fs) → b ∉ L.q.foot := fun b hb z => nd.2.2 b z b hb rfl
  refine ⟨⟨h.ob.imp fun dx q => ?_, k.at h.lf (f _ (by simp)), h.fs.imp fun a r ha _ e => e.imp fun dx e => k.at e (f _ (by simp [ha])), hd, h.d.step k fun b hb => f b (by simp [hb]), ?_⟩, ?_⟩
  · show H' L.st = some (.ins _ _ (stoF _ _ _ _ (.ref D.q)))
    rw [e]
    exact k.at q (f _ (by simp))
  · have := nd_step k nd0 hd.nd fun b hb => h.has (by unfold SL.foot; simp only [List.mem_append] at hb ⊢; exact hb.elim .inl (fun z => .inr (.inr z)))
    refine (List.Perm.nodup_iff ?_).mp this
    show (D.foot ++ (L.d.foot ++ _)).Perm (L.d.foot ++ (D.foot ++ _))
    rw [← List.append_assoc, ← List.append_assoc]
    exact List.perm_append_comm.append_right _
  · refine k.frame (fun b hb => by unfold SL.foot; simp [hb]) fun b hb => ?_
    unfold SL.foot at hb ⊢
    simp only [List.mem_append] at hb ⊢
    rcases hb with hb | hb | hb
    · exact .inr (.inl hb)
    · exact .inl hb
    · exact .inr (.inr (.inr hb))
/-- a store whose own part went on -/
theorem StoAt.withOwn {L : SL} {s : Sto} {lf : Addr} {fs : List Addr} {mf md : Int} {frs : List Fra} (h : StoAt K H L s) (k : Step (L.st :: L.lf :: L.fs) (L.st :: lf :: fs) H H')
    (ho : ∃ dx, H' L.st = some (.ins (He.ga K "Store") dx (stoF (.ref L.d.d) (.int mf) (.int md) (.ref lf) (.ref L.q.q)))) (hl : H' lf = some (.lst (fs.map V.ref))) (hf : All2 (FraAt K H') fs frs) (n : (L.st :: lf :: fs).Nodup) :
    StoAt K H' { L with lf := lf, fs := fs } { s with mf := mf, md := md, frs := frs } ∧ Step L.foot ({ L with lf := lf, fs := fs } : SL).foot H H' := by
  have nd : ((L.st :: L.lf :: L.fs) ++ (L.d.foot ++ L.q.foot)).Nodup := by
    refine (List.Perm.nodup_iff ?_).mp h.nd
    rw [← List.append_assoc]
    exact List.perm_append_comm
  have nd0 := nd
  rw [List.nodup_append] at nd
  have f : ∀ b, b ∈ L.d.foot ++ L.q.foot → b ∉ L.st :: L.lf :: L.fs := fun b hb z => nd.2.2 b z b hb rfl
  refine ⟨⟨ho, hl, hf, h.q.step k fun b hb => f b (by simp [hb]), h.d.step k fun b hb => f b (by simp [hb]), ?_⟩, ?_⟩
  · have := nd_step k nd0 n fun b hb => h.has (by unfold SL.foot; simp only [List.mem_append] at hb ⊢; exact hb.elim .inl (fun z => .inr (.inl z)))
    refine (List.Perm.nodup_iff ?_).mp this
    show ((L.st :: lf :: fs) ++ (L.d.foot ++ L.q.foot)).Perm (L.d.foot ++ (L.q.foot ++ (L.st :: lf :: fs)))
    rw [← List.append_assoc L.d.foot]
    exact List.perm_append_comm
  · refine k.frame (fun b hb => by unfold SL.foot; simp only [List.mem_append]; exact .inr (.inr hb)) fun b hb => ?_
    unfold SL.foot at hb ⊢
    simp only [List.mem_append] at hb ⊢
    rcases hb with hb | hb | hb
    · exact .inr (.inl hb)
    · exact .inr (.inr (.inl hb))
    · exact .inl hb
end

/-! ### disks: what is reckoned -/
def setP (l : List Int) (p : Int × Int) : List Int := l.set p.1.toNat p.2
def Dsk.with_ (s : Dsk) (m : Nat) : List Int := ((s.lots.take m).flatten).foldl setP s.sure
def Dsk.shown (s : Dsk) : List Int := s.with_ s.lots.length
theorem setP_len (l : List Int) (p : Int × Int) : (setP l p).length = l.length := by simp [setP]
theorem foldl_setP_len : ∀ (ps : List (Int × Int)) (l : List Int), (ps.foldl setP l).length = l.length
  | [], _ => rfl
  | p :: ps, l => by rw [List.foldl_cons, foldl_setP_len ps, setP_len]
theorem Dsk.with_len (s : Dsk) (m : Nat) : (s.with_ m).length = s.sure.length := foldl_setP_len _ _
theorem Dsk.shown_len (s : Dsk) : s.shown.length = s.sure.length := s.with_len _
/-- rooms in range; not too much -/
structure Dsk.Ok (s : Dsk) : Prop where
  rooms : ∀ lot ∈ s.lots, ∀ p ∈ lot, 0 ≤ p.1 ∧ p.1 < s.sure.length
  ne : s.lots ≠ []
  few : s.lots.flatten.length ≤ 1000000
  lots : s.lots.length ≤ 1000000
  size : 1 ≤ s.sure.length ∧ s.sure.length ≤ 40
end SY

/-! ## Prog, part C: checks, disks -/
namespace SY
open PySem PySem.Spec PyProof.Rows L2 XB
section
variable {K : PySem.W.Frag} {H : Hp} {σ : L2.St} {Qd : Hp → Prop} {a D : Addr} {xs : List V}
/-- [y for x in l for y in x] -/
theorem comp2_flat {i j : Nat} {ins : List (List V)} (hij : i ≠ j) (hi : i < σ.length) (hj : j < σ.length) (hl : SqL K H a xs) (hin : All2 (fun x ys => ∃ c, x = .ref c ∧ SqL K H c ys) xs ins) (hz : ins.flatten.length ≤ 16000000) (hD : H D = none)
    (k : ∀ H1, Same H H1 → H1 D = some (.lst ins.flatten) → Qd H1) :
    ∃ W : Nat → Nat → Hp → Prop, (∃ m, W 0 m (upd H D (.lst []))) ∧ ∀ n m H, W n m H →
      ((Itl K a).stop n H ∧ Qd H) ∨ ((Itl K a).go n H ∧ ∃ Nx : Hp → Prop, (∀ H', Nx H' → ∃ m', m' < m ∧ W (n + 1) m' H') ∧ ∀ x H', (Itl K a).yld n H x H' → gName i x (wipe σ [i, j]) H' fun σ2 H2 => wipe σ2 [i, j] = wipe σ [i, j] ∧ tYes σ2 H2 fun b H3 =>
        if b = true then iList K (tVar i) σ2 H3 fun J1 H4 => ∃ W1 : Nat → Nat → Hp → Prop, (∃ m, W1 0 m H4) ∧ ∀ n1 k H, W1 n1 k H →
          (J1.stop n1 H ∧ Nx H) ∨ (J1.go n1 H ∧ ∃ Nx1 : Hp → Prop, (∀ H', Nx1 H' → ∃ k', k' < k ∧ W1 (n1 + 1) k' H') ∧ ∀ x H', J1.yld n1 H x H' → gName j x (wipe σ2 [j]) H' fun σ3 H5 => wipe σ3 [j] = wipe σ2 [j] ∧ tYes σ3 H5 fun b H6 =>
            if b = true then (tVar j) σ3 H6 fun y H7 => ∃ acc, H7 D = some (.lst acc) ∧ acc.length < sizeLine ∧ Nx1 (upd H7 D (.lst (acc ++ [y]))) else Nx1 H6)
        else Nx H3) := by
  have len := hin.len
  refine ⟨fun n m H1 => m = xs.length - n ∧ n ≤ xs.length ∧ Same H H1 ∧ H1 D = some (.lst (ins.take n).flatten), ⟨_, rfl, Nat.zero_le _, same_upd hD, by rw [upd_same]; rfl⟩, ?_⟩
  rintro n m H1 ⟨rfl, hn, s1, hd⟩
  by_cases hlt : n < xs.length
  · right
    obtain ⟨x, hx⟩ : ∃ x, xs[n]? = some x := ⟨xs[n], List.getElem?_eq_getElem hlt⟩
    obtain ⟨ys, hy, c, rfl, hc⟩ := hin.get hx
    refine ⟨⟨xs, _, s1.seq hl, hx⟩, fun H' => Same H H' ∧ H' D = some (.lst (ins.take (n + 1)).flatten), fun H' h => ⟨_, by omega, rfl, hlt, h⟩, ?_⟩
    rintro y H' ⟨rfl, hyl⟩
    have ey := hyl xs (s1.seq hl)
    rw [hx] at ey
    cases ey
    refine ⟨?_, ?_⟩
    · simp only [wipe]
      rw [List.set_comm _ _ hij.symm]
      simp [List.set_comm _ _ hij.symm]
    unfold tYes
    dsimp only
    rw [if_pos rfl]
    refine ⟨_, by rw [List.getElem?_set_self (by simp [wipe]; exact hi)], c, rfl, ⟨ys, s1.seq hc⟩, ?_⟩
    have etk : ins.take (n + 1) = ins.take n ++ [ys] := by
      rw [List.take_add_one, hy]
      rfl
    have zz : (ins.take n).flatten.length + ys.length ≤ ins.flatten.length := by
      have h1 : (ins.take (n + 1)).flatten.length ≤ ins.flatten.length := by
        conv => rhs; rw [← List.take_append_drop (n + 1) ins, List.flatten_append, List.length_append]
        omega
      rw [etk, List.flatten_append, List.length_append] at h1
      simpa using h1
    refine ⟨fun n1 k H2 => k = ys.length - n1 ∧ n1 ≤ ys.length ∧ Same H H2 ∧ H2 D = some (.lst ((ins.take n).flatten ++ ys.take n1)), ⟨_, rfl, Nat.zero_le _, s1, by simpa using hd⟩, ?_⟩
    rintro n1 k H2 ⟨rfl, hn1, s2, hd2⟩
    by_cases hlt1 : n1 < ys.length
    · right
      obtain ⟨z, hz1⟩ : ∃ z, ys[n1]? = some z := ⟨ys[n1], List.getElem?_eq_getElem hlt1⟩
      refine ⟨⟨ys, _, s2.seq hc, hz1⟩, fun H' => Same H H' ∧ H' D = some (.lst ((ins.take n).flatten ++ ys.take (n1 + 1))), fun H' h => ⟨_, by omega, rfl, hlt1, h⟩, ?_⟩
      rintro y H3 ⟨rfl, hyl1⟩
      have ey := hyl1 ys (s2.seq hc)
      rw [hz1] at ey
      cases ey
      refine ⟨by simp [wipe], ?_⟩
      rw [if_pos rfl]
      refine ⟨_, by rw [List.getElem?_set_self (by simp [wipe]; exact hj)], _, hd2, sz_lt ?_, upd_new s2 hD, ?_⟩
      · rw [List.length_append, List.length_take]
        omega
      · rw [upd_same, List.take_add_one, hz1, List.append_assoc]
        rfl
    · left
      have e : n1 = ys.length := by omega
      subst e
      refine ⟨⟨ys, s2.seq hc, Nat.le_refl _⟩, s2, ?_⟩
      rw [hd2, List.take_length, etk, List.flatten_append]
      simp
  · left
    have e : n = xs.length := by omega
    subst e
    refine ⟨⟨xs, s1.seq hl, Nat.le_refl _⟩, k H1 s1 ?_⟩
    rw [hd, len, List.take_length]
end

/-! ### numbers -/
def sp_is_whole (K : PySem.W.Frag) : Sp := fun vs H Q _ => ∃ x n b c, vs = [x] ∧ TyX K H x (.type n) ∧ kitB n "int" = some b ∧ kitB n "bool" = some c ∧ Q (.bl (b && !c)) H
def t_is_whole (K : PySem.W.Frag) : TS := (tRet (tAndV (tCB (rIsi K) (tCons (tVar 0) (tCons (tC (.ty "int")) tNil))) (tNotV (tCB (rIsi K) (tCons (tVar 0) (tCons (tC (.ty "bool")) tNil))))))
theorem len_is_whole {K : PySem.W.Frag} (vs : List V) (H : Hp) (Q : VK) (E : XK) (h : sp_is_whole K vs H Q E) : vs.length = (["thing"] : List Str).length := by
  unfold sp_is_whole at h
  repeat (first | (obtain ⟨e, _⟩ := h; rw [e]; done) | (obtain ⟨e, _⟩ := h; rw [e]; rfl; done) | obtain ⟨_, h⟩ := h)
theorem pure_is_whole {K : PySem.W.Frag} (pf : PF K) {vs : List V} {H : Hp} {Q : VK} {E : XK} (h : sp_is_whole K vs H Q E) : t_is_whole K { nx := fun _ H' => Q .non H', rt := Q } (start ["thing"] vs) H := by
  obtain ⟨x, n, b, c, rfl, ty, hb, hc, q⟩ := h
  refine ⟨_, rfl, x, .ty "int", _, _, b, rfl, .ty _, ty, kit_ty hb, b, rfl, ?_⟩
  cases b with
  | false => exact q
  | true => exact ⟨_, rfl, x, .ty "bool", _, _, c, rfl, .ty _, ty, kit_ty hc, c, rfl, q⟩
theorem whole_int {K : PySem.W.Frag} {H : Hp} {Q : VK} {E : XK} (i : Int) (q : Q (.bl true) H) : sp_is_whole K [.int i] H Q E :=
  ⟨.int i, "int", true, false, rfl, .base (.int i), by decide +kernel, by decide +kernel, q⟩
/-- a whole number from low to high -/
def sp_within (K : PySem.W.Frag) : Sp := fun vs H Q _ => ∃ i lo hi : Int, vs = [.int i, .int lo, .int hi] ∧ Q (.bl (decide (lo ≤ i) && decide (i ≤ hi))) H
def t_within (K : PySem.W.Frag) : TS := (tRet (tAndV (tCall (sp_is_whole K) [] E0 (tCons (tVar 0) tNil)) (tChain xLe xLe (tVar 1) (tVar 0) (tVar 2))))
theorem len_within {K : PySem.W.Frag} (vs : List V) (H : Hp) (Q : VK) (E : XK) (h : sp_within K vs H Q E) : vs.length = (["thing", "low", "high"] : List Str).length := by
  unfold sp_within at h
  repeat (first | (obtain ⟨e, _⟩ := h; rw [e]; done) | (obtain ⟨e, _⟩ := h; rw [e]; rfl; done) | obtain ⟨_, h⟩ := h)
theorem pure_within {K : PySem.W.Frag} (pf : PF K) {vs : List V} {H : Hp} {Q : VK} {E : XK} (h : sp_within K vs H Q E) : t_within K { nx := fun _ H' => Q .non H', rt := Q } (start ["thing", "low", "high"] vs) H := by
  obtain ⟨i, lo, hi, rfl, q⟩ := h
  refine ⟨_, rfl, .int i, "int", true, false, rfl, .base (.int _), by decide +kernel, by decide +kernel, true, rfl, ?_⟩
  refine iteT ?_
  refine ⟨_, rfl, _, rfl, _, _, rfl, rfl, _, rfl, ?_⟩
  by_cases hl : lo ≤ i
  · rw [decide_eq_true hl] at q ⊢
    rw [if_pos rfl]
    exact ⟨_, rfl, _, _, rfl, rfl, q⟩
  · rw [decide_eq_false hl] at q ⊢
    rw [if_neg Bool.false_ne_true]
    exact q
theorem within_no {i lo hi : Int} {A B : Prop} (h1 : lo ≤ i) (h2 : i ≤ hi) (b : B) : if (!(decide (lo ≤ i) && decide (i ≤ hi))) = true then A else B := by
  rw [decide_eq_true h1, decide_eq_true h2]
  exact b
theorem ifeq {b c : Bool} {A B : Prop} (h : b = c) (k : if c = true then A else B) : if b = true then A else B := h ▸ k
theorem iteN {b : Bool} {A B : Prop} (h : b = false) (k : B) : if b = true then A else B := by
  subst h
  exact k
theorem iteY {b : Bool} {A B : Prop} (h : b = true) (k : A) : if b = true then A else B := by
  subst h
  exact k

/-! ### disks -/
def Dsk.new (n : Nat) : Dsk := ⟨List.replicate n 0, [[]], none⟩
def sp_Disk_init (K : PySem.W.Frag) : Sp := fun vs H Q _ => ∃ (x dx : Addr) (n : Nat), vs = [.ref x, .int n] ∧ H x = some (.ins (He.ga K "Disk") dx []) ∧ 1 ≤ n ∧ n ≤ 40 ∧ ∀ L H', DiskAt K H' L (Dsk.new n) → L.d = x → Step [x] L.foot H H' → Q .non H'
def t_Disk_init (K : PySem.W.Frag) : TS := (tSeq (tIfS (tNot (tB (tCall (sp_within K) [] E0 (tCons (tVar 1) (tCons (tC (.int 1)) (tCons (tC (.int 40)) tNil)))))) tNever tNext)
    (tSeq (sFld K (tVar 0) (tOp rRep (tLst (tCons (tC (.int 0)) tNil)) (tVar 1)) "sure")
    (tSeq (sFld K (tVar 0) (tLst (tCons (tLst tNil) tNil)) "open_lots")
    (sFld K (tVar 0) (tC .non) "left"))))
theorem len_Disk_init {K : PySem.W.Frag} (vs : List V) (H : Hp) (Q : VK) (E : XK) (h : sp_Disk_init K vs H Q E) : vs.length = (["self", "rooms"] : List Str).length := by
  unfold sp_Disk_init at h
  repeat (first | (obtain ⟨e, _⟩ := h; rw [e]; done) | (obtain ⟨e, _⟩ := h; rw [e]; rfl; done) | obtain ⟨_, h⟩ := h)
theorem pure_Disk_init {K : PySem.W.Frag} (pf : PF K) {vs : List V} {H : Hp} {Q : VK} {E : XK} (h : sp_Disk_init K vs H Q E) : t_Disk_init K { nx := fun _ H' => Q .non H', rt := Q } (start ["self", "rooms"] vs) H := by
  obtain ⟨x, dx, n, rfl, hx, h1, h2, q⟩ := h
  refine ⟨_, rfl, n, 1, 40, rfl, _, rfl, within_no (by omega) (by omega) ?_⟩
  refine ⟨of_decide_eq_true rfl, fun l hl => ⟨_, rfl, l, n, [.int 0], rfl, rfl, upd_same, by omega, by omega, Nat.le_trans (by simp; omega) (by decide : 40 ≤ sizeLine), fun p hp => ?_⟩⟩
  have hx1 := same_upd (o := .lst [V.int 0]) hl _ _ hx
  have hx2 := same_upd (o := .lst ((List.replicate (n : Int).toNat [V.int 0]).flatten)) hp _ _ hx1
  refine ⟨_, rfl, x, _, dx, [], rfl, hx2, pf.cl_Disk, pf.na_Disk_sure, of_decide_eq_true rfl, ?_⟩
  have npx : p ≠ x := (ne_of_none hx1 hp).symm
  refine ⟨of_decide_eq_true rfl, fun a ha => ⟨of_decide_eq_true rfl, fun o ho => ⟨_, rfl, x, _, dx, _, rfl, (upd_ne (ne_of_none ((upd_ne (ne_of_none upd_same ha)).trans upd_same) ho)).trans ((upd_ne (ne_of_none upd_same ha)).trans upd_same), pf.cl_Disk, pf.na_Disk_open_lots, of_decide_eq_true rfl, ?_⟩⟩⟩
  have nax : a ≠ x := (ne_of_none upd_same ha).symm
  have nap : a ≠ p := fun z => by
    rw [z, upd_ne npx, upd_same] at ha
    cases ha
  have nox : o ≠ x := fun z => by
    rw [z, upd_ne (Ne.symm nax), upd_same] at ho
    cases ho
  have noa : o ≠ a := fun z => by
    rw [z, upd_same] at ho
    cases ho
  have nop : o ≠ p := fun z => by
    rw [z, upd_ne (Ne.symm nap), upd_ne npx, upd_same] at ho
    cases ho
  refine ⟨_, rfl, x, _, dx, _, rfl, upd_same, pf.cl_Disk, pf.na_Disk_left, of_decide_eq_true rfl, ?_⟩
  refine q ⟨x, p, o, [a]⟩ _ ⟨⟨dx, upd_same⟩, ?_, ?_, .one ⟨[], ?_, .nil⟩, ?_⟩ rfl ?_
  · show upd _ x _ p = _
    rw [upd_ne npx, upd_ne npx, upd_ne (Ne.symm nop), upd_ne (Ne.symm nap), upd_ne npx, upd_same]
    simp [Dsk.new]
  · show upd _ x _ o = _
    rw [upd_ne nox, upd_ne nox, upd_same]
    rfl
  · show upd _ x _ a = _
    rw [upd_ne nax, upd_ne nax, upd_ne (Ne.symm noa), upd_same]
    rfl
  · simp [npx.symm, nox.symm, nax.symm, nop.symm, nap.symm, noa]
  · have s1 : Step [x] [x] H _ := Step.same [x] (same_upd (o := .lst [V.int 0]) hl)
    have s2 := s1.seq (same_upd (o := .lst ((List.replicate (n : Int).toNat [V.int 0]).flatten)) hp)
    have hpH : H p = none := (same_upd (o := .lst [V.int 0]) hl).free hp
    have s3 := s2.upd (a := x) (o := .ins (He.ga K "Disk") dx (putF "sure" (.ref p) [])) (.inr ⟨by simp, fun xs => nt_ins hx2⟩)
    have s4 := s3.seq (same_upd (o := .lst []) ha)
    have s5 := s4.seq (same_upd (o := .lst [.ref a]) ho)
    have s6 := s5.upd (a := x) (o := .ins (He.ga K "Disk") dx (putF "open_lots" (.ref o) (putF "sure" (.ref p) []))) (.inr ⟨by simp, fun xs => by rw [upd_ne nox.symm, upd_ne nax.symm, upd_same]; intro z; cases z⟩)
    have s7 := s6.upd (a := x) (o := .ins (He.ga K "Disk") dx (putF "left" .non (putF "open_lots" (.ref o) (putF "sure" (.ref p) [])))) (.inr ⟨by simp, fun xs => by rw [upd_same]; intro z; cases z⟩)
    refine s7.sub fun b hb => ?_
    have fr : ∀ {c : Addr}, c ≠ x → (upd (upd (upd H l (.lst [V.int 0])) p (.lst ((List.replicate (n : Int).toNat [V.int 0]).flatten))) x (.ins (He.ga K "Disk") dx (putF "sure" (.ref p) []))) c = none → H c = none := fun {c} n h => by
      rw [upd_ne n] at h
      exact ((same_upd hl).trans (same_upd hp)).free h
    unfold DL.foot at hb
    simp only [List.mem_cons, List.not_mem_nil, or_false] at hb
    rcases hb with rfl | rfl | rfl | rfl
    · exact .inl (by simp)
    · exact .inr hpH
    · exact .inr (fr nox ((same_upd ha).free ho))
    · exact .inr (fr nax ha)
def sp_Disk_rooms (K : PySem.W.Frag) : Sp := fun vs H Q _ => ∃ L s, vs = [.ref L.d] ∧ DiskAt K H L s ∧ Q (.int s.sure.length) H
def t_Disk_rooms (K : PySem.W.Frag) : TS := (tRet (tCB (xLen K) (tCons (tFld K (tVar 0) "sure") tNil)))
theorem len_Disk_rooms {K : PySem.W.Frag} (vs : List V) (H : Hp) (Q : VK) (E : XK) (h : sp_Disk_rooms K vs H Q E) : vs.length = (["self"] : List Str).length := by
  unfold sp_Disk_rooms at h
  repeat (first | (obtain ⟨e, _⟩ := h; rw [e]; done) | (obtain ⟨e, _⟩ := h; rw [e]; rfl; done) | obtain ⟨_, h⟩ := h)
theorem pure_Disk_rooms {K : PySem.W.Frag} (pf : PF K) {vs : List V} {H : Hp} {Q : VK} {E : XK} (h : sp_Disk_rooms K vs H Q E) : t_Disk_rooms K { nx := fun _ H' => Q .non H', rt := Q } (start ["self"] vs) H := by
  obtain ⟨L, s, rfl, h, q⟩ := h
  obtain ⟨dx, ho⟩ := h.ob
  refine ⟨_, rfl, _, _, _, _, _, rfl, ho, pf.cl_Disk, pf.na_Disk_sure, rfl, _, _, rfl, .inl (SqL.of h.ls), ?_⟩
  rw [List.length_map]
  exact q
def sp_Disk_lasting (K : PySem.W.Frag) : Sp := fun vs H Q _ => ∃ L s, vs = [.ref L.d] ∧ DiskAt K H L s ∧ ∀ p H', H p = none → Same H H' → H' p = some (.lst (s.sure.map V.int)) → Q (.ref p) H'
def t_Disk_lasting (K : PySem.W.Frag) : TS := (tRet (tCB (xList K) (tCons (tFld K (tVar 0) "sure") tNil)))
theorem len_Disk_lasting {K : PySem.W.Frag} (vs : List V) (H : Hp) (Q : VK) (E : XK) (h : sp_Disk_lasting K vs H Q E) : vs.length = (["self"] : List Str).length := by
  unfold sp_Disk_lasting at h
  repeat (first | (obtain ⟨e, _⟩ := h; rw [e]; done) | (obtain ⟨e, _⟩ := h; rw [e]; rfl; done) | obtain ⟨_, h⟩ := h)
theorem pure_Disk_lasting {K : PySem.W.Frag} (pf : PF K) {vs : List V} {H : Hp} {Q : VK} {E : XK} (h : sp_Disk_lasting K vs H Q E) : t_Disk_lasting K { nx := fun _ H' => Q .non H', rt := Q } (start ["self"] vs) H := by
  obtain ⟨L, s, rfl, h, q⟩ := h
  obtain ⟨dx, ho⟩ := h.ob
  exact ⟨_, rfl, _, _, _, _, _, rfl, ho, pf.cl_Disk, pf.na_Disk_sure, rfl, _, _, rfl, .inl (SqL.of h.ls), fun p hp => q p _ hp (same_upd hp) upd_same⟩
def sp_Disk_lots (K : PySem.W.Frag) : Sp := fun vs H Q _ => ∃ L s, vs = [.ref L.d] ∧ DiskAt K H L s ∧ s.lots.length ≤ 16000000 ∧ ∀ p ps H', H p = none → Same H H' → H' p = some (.lst (ps.map V.ref)) → All2 (fun a lot => H a = none ∧ LotAt H' a lot) ps s.lots → (p :: ps).Nodup → Q (.ref p) H'
def t_Disk_lots (K : PySem.W.Frag) : TS := (tRet (tLc (iList K (tFld K (tVar 0) "open_lots")) (gName 1) tYes (tCB (xList K) (tCons (tVar 1) tNil)) [1]))
theorem len_Disk_lots {K : PySem.W.Frag} (vs : List V) (H : Hp) (Q : VK) (E : XK) (h : sp_Disk_lots K vs H Q E) : vs.length = (["self"] : List Str).length := by
  unfold sp_Disk_lots at h
  repeat (first | (obtain ⟨e, _⟩ := h; rw [e]; done) | (obtain ⟨e, _⟩ := h; rw [e]; rfl; done) | obtain ⟨_, h⟩ := h)
theorem pure_Disk_lots {K : PySem.W.Frag} (pf : PF K) {vs : List V} {H : Hp} {Q : VK} {E : XK} (h : sp_Disk_lots K vs H Q E) : t_Disk_lots K { nx := fun _ H' => Q .non H', rt := Q } (start ["self", "lot"] vs) H := by
  obtain ⟨L, s, rfl, h, hz, q⟩ := h
  obtain ⟨dx, ho⟩ := h.ob
  refine ⟨_, rfl, _, _, _, _, _, rfl, ho, pf.cl_Disk, pf.na_Disk_open_lots, rfl, _, rfl, ⟨_, SqL.of h.lo⟩, ?_⟩
  intro D hD
  have len := h.lots.len
  refine lc_list (K := K) (a := L.lo) (xs := L.lots.map V.ref) (fun n H1 => Same H H1 ∧ ∃ ps, H1 D = some (.lst (ps.map V.ref)) ∧ All2 (fun a lot => H a = none ∧ LotAt H1 a lot) ps (s.lots.take n) ∧ (D :: ps).Nodup)
    ⟨same_upd hD, [], by rw [upd_same]; rfl, by rw [List.take_zero]; exact .nil, by simp⟩ (fun n H1 _ h1 => h1.1.seq (SqL.of h.lo)) ?_ ?_
  · rintro n x H1 hx ⟨s1, ps, hv, hA, nd⟩
    rw [List.getElem?_map] at hx
    obtain ⟨a, ha, rfl⟩ := Option.map_eq_some_iff.mp hx
    obtain ⟨lot, hl, ts, e, tt⟩ := h.lots.get ha
    have e1 := s1 _ _ e
    refine ⟨by simp [wipe], ?_⟩
    unfold tYes
    dsimp only
    rw [if_pos rfl]
    refine ⟨_, rfl, a, _, rfl, .inl (SqL.of e1), fun p hp => ?_⟩
    have npD : p ≠ D := (ne_of_none hv hp).symm
    have lz : ps.length ≤ s.lots.length := by
      rw [hA.len, List.length_take]
      omega
    have hD1 := same_upd (o := .lst (ts.map V.ref)) hp _ _ hv
    refine ⟨_, hD1, sz_lt (by rw [List.length_map]; omega), ?_⟩
    have hpH : H p = none := s1.free hp
    refine ⟨upd_new (s1.trans (same_upd hp)) hD, ps ++ [p], by rw [upd_same, List.map_append]; rfl, ?_, ?_⟩
    · rw [List.take_add_one, hl]
      have kd : ∀ c o, H1 c = some o → c ≠ D → (upd (upd H1 p (.lst (ts.map V.ref))) D (.lst (ps.map V.ref ++ [V.ref p]))) c = some o := fun c o e n => by
        rw [upd_ne n]
        exact same_upd hp _ _ e
      have hA2 : All2 (fun a lot => H a = none ∧ LotAt (upd (upd H1 p (.lst (ts.map V.ref))) D (.lst (ps.map V.ref ++ [V.ref p]))) a lot) ps (s.lots.take n) := hA.imp fun a lot ha _ h2 => by
        obtain ⟨fr, ts, e, tt⟩ := h2
        refine ⟨fr, ts, kd _ _ e fun z => ?_, tt.imp fun t p _ _ e => kd _ _ e (ne_lst_tup hv e)⟩
        exact (List.nodup_cons.mp nd).1 (z ▸ ha)
      refine hA2.append (.one ⟨hpH, ts, by rw [upd_ne npD, upd_same], tt.imp fun t p _ _ e => ?_⟩)
      exact kd _ _ (s1 _ _ e) (ne_lst_tup hv (s1 _ _ e))
    · have hn := List.nodup_cons.mp nd
      refine List.nodup_cons.mpr ⟨by simp [hn.1, npD.symm], ?_⟩
      rw [List.nodup_append]
      refine ⟨hn.2, by simp, fun b hb c hc e => ?_⟩
      rw [List.mem_singleton] at hc
      subst hc e
      obtain ⟨lot, _, _, ts, e, _⟩ := hA.mem hb
      rw [hp] at e
      cases e
  · rintro H1 ⟨s1, ps, hv, hA, nd⟩
    rw [List.length_map, len, List.take_length] at hA
    exact q D ps H1 hD s1 hv hA nd
def sp_Disk_with_lots (K : PySem.W.Frag) : Sp := fun vs H Q _ => ∃ L s m, vs = [.ref L.d, .int (m : Nat)] ∧ DiskAt K H L s ∧ s.Ok ∧ m ≤ s.lots.length ∧ ∀ p H', H p = none → Same H H' → H' p = some (.lst ((s.with_ m).map V.int)) → Q (.ref p) H'
def t_Disk_with_lots (K : PySem.W.Frag) : TS := (tSeq (tAsg (tCB (xList K) (tCons (tFld K (tVar 0) "sure") tNil)) (gName 2))
    (tSeq (tFor (iList K (tLc2 (iList K (tSl (rSlL K) (tFld K (tVar 0) "open_lots") tNoPart (tPart (tVar 1)))) (gName 5) tYes (iList K (tVar 5)) (gName 6) tYes (tVar 6) [5, 6] [6])) (gTup K 2 (gCons (gName 3) (gCons (gName 4) gNil))) (tAsg (tVar 4) (gSub (tVar 2) (tVar 3) rSetL)))
    (tRet (tVar 2))))
theorem len_Disk_with_lots {K : PySem.W.Frag} (vs : List V) (H : Hp) (Q : VK) (E : XK) (h : sp_Disk_with_lots K vs H Q E) : vs.length = (["self", "many"] : List Str).length := by
  unfold sp_Disk_with_lots at h
  repeat (first | (obtain ⟨e, _⟩ := h; rw [e]; done) | (obtain ⟨e, _⟩ := h; rw [e]; rfl; done) | obtain ⟨_, h⟩ := h)
theorem pure_Disk_with_lots {K : PySem.W.Frag} (pf : PF K) {vs : List V} {H : Hp} {Q : VK} {E : XK} (h : sp_Disk_with_lots K vs H Q E) : t_Disk_with_lots K { nx := fun _ H' => Q .non H', rt := Q } (start ["self", "many", "found", "room", "number", "lot", "pair"] vs) H := by
  obtain ⟨L, s, m, rfl, h, ok, hm, q⟩ := h
  obtain ⟨dx, ho⟩ := h.ob
  refine ⟨_, rfl, _, _, _, _, _, rfl, ho, pf.cl_Disk, pf.na_Disk_sure, rfl, _, _, rfl, .inl (SqL.of h.ls), fun p hp => ?_⟩
  have s1 := same_upd (o := .lst (s.sure.map V.int)) hp
  have h1 := h.same s1
  obtain ⟨dx1, ho1⟩ := h1.ob
  refine ⟨_, rfl, _, _, _, _, _, rfl, ho1, pf.cl_Disk, pf.na_Disk_open_lots, rfl, _, rfl, _, rfl, _, _, rfl, SqL.of h1.lo, fun c hc => ?_⟩
  have s2 := same_upd (o := .lst (cutV (L.lots.map V.ref) none (some (m : Int)))) hc
  refine ⟨c, rfl, ⟨_, SqL.of upd_same⟩, ?_⟩
  have len := h.lots.len
  have ecut : cutV (L.lots.map V.ref) none (some (m : Int)) = (L.lots.take m).map V.ref := by
    unfold cutV HT.sIx
    dsimp only
    rw [if_neg (by omega), List.length_map, List.map_take]
    simp only [List.drop_zero, Nat.sub_zero, Int.toNat_natCast]
    congr 1
    omega
  intro D hD
  have h2 := h1.same s2
  obtain ⟨ins, hins, hflat⟩ : ∃ ins : List (List Addr), All2 (fun a ts => (upd (upd H p (.lst (s.sure.map V.int))) c (.lst (cutV (L.lots.map V.ref) none (some (m : Int))))) a = some (.lst (ts.map V.ref))) (L.lots.take m) ins ∧ All2 (TupAt (upd (upd H p (.lst (s.sure.map V.int))) c (.lst (cutV (L.lots.map V.ref) none (some (m : Int)))))) ins.flatten (s.lots.take m).flatten := by
    have : ∀ {as : List Addr} {ls : List (List (Int × Int))} (Hx : Hp), All2 (LotAt Hx) as ls → ∃ ins : List (List Addr), All2 (fun a ts => Hx a = some (.lst (ts.map V.ref))) as ins ∧ All2 (TupAt Hx) ins.flatten ls.flatten := by
      intro as ls Hx h
      induction h with
      | nil => exact ⟨[], .nil, .nil⟩
      | cons r t ih =>
        obtain ⟨ts, e, tt⟩ := r
        obtain ⟨ins, i1, i2⟩ := ih
        exact ⟨ts :: ins, .cons e i1, by simpa using tt.append i2⟩
    refine this _ ?_
    have := h2.lots
    have tk : ∀ {α β : Type} {R : α → β → Prop} {xs : List α} {ys : List β} (n : Nat), All2 R xs ys → All2 R (xs.take n) (ys.take n) := by
      intro α β R xs ys n h
      induction h generalizing n with
      | nil => simp; exact .nil
      | cons r t ih =>
        cases n with
        | zero => simp; exact .nil
        | succ n => simp; exact .cons r (ih n)
    exact tk m this
  have lfl : ins.flatten.length ≤ 1000000 := by
    rw [hflat.len]
    refine Nat.le_trans ?_ ok.few
    conv => rhs; rw [← List.take_append_drop m s.lots, List.flatten_append, List.length_append]
    omega
  refine comp2_flat (ins := ins.map fun ts => ts.map V.ref) (i := 5) (j := 6) (of_decide_eq_true rfl) ?_ ?_ (SqL.of (by rw [upd_same, ecut])) ?_ ?_ hD ?_
  · exact of_decide_eq_true rfl
  · exact of_decide_eq_true rfl
  · have gen : ∀ {as : List Addr} {ins : List (List Addr)} (Hx : Hp), All2 (fun a ts => Hx a = some (.lst (ts.map V.ref))) as ins → All2 (fun x ys => ∃ c, x = V.ref c ∧ SqL K Hx c ys) (as.map V.ref) (ins.map fun ts => ts.map V.ref) := by
      intro as ins Hx h
      induction h with
      | nil => exact .nil
      | cons r t ih => exact .cons ⟨_, rfl, SqL.of r⟩ ih
    exact gen _ hins
  · rw [← List.map_flatten, List.length_map]
    omega
  intro H3 s3 hD3
  rw [← List.map_flatten] at hD3
  refine ⟨D, rfl, ⟨_, SqL.of hD3⟩, ?_⟩
  have hp3 : H3 p = some (.lst (s.sure.map V.int)) := s3 _ _ (s2 _ _ upd_same)
  have hDp : D ≠ p := (ne_of_none (s2 _ _ upd_same) hD).symm
  refine for_list (xs := ins.flatten.map V.ref) (fun n σ H4 => Same H H4 ∧ H4 D = some (.lst (ins.flatten.map V.ref)) ∧ H4 p = some (.lst ((((s.lots.take m).flatten.take n).foldl setP s.sure).map V.int)) ∧ ∃ v3 v4 v5 v6, σ = [some (.ref L.d), some (.int m), some (.ref p), v3, v4, v5, v6])
    ⟨((s1.trans s2).trans s3), hD3, hp3, _, _, _, _, rfl⟩ (fun n σ H4 _ h4 => SqL.of h4.2.1) ?_ ?_
  · rintro n x σ H4 hx ⟨s4, hD4, hp4, v3, v4, v5, v6, rfl⟩
    rw [List.getElem?_map] at hx
    obtain ⟨t, ht, rfl⟩ := Option.map_eq_some_iff.mp hx
    obtain ⟨pr, hpr, tt⟩ := hflat.get ht
    have hin : pr ∈ (s.lots.take m).flatten := List.mem_of_getElem? hpr
    obtain ⟨lot, hlot, hin2⟩ := List.mem_flatten.mp hin
    have rg := ok.rooms lot (List.mem_of_mem_take hlot) pr hin2
    have tH : H4 t = some (.tup [.int pr.1, .int pr.2]) := by
      have a1 : H t ≠ none → H4 t = some (.tup [.int pr.1, .int pr.2]) := fun z => by
        cases e : H t with
        | none => exact absurd e z
        | some o =>
          have := (s1.trans s2) _ _ e
          rw [show _ = some _ from tt] at this
          cases this
          exact s4 _ _ e
      refine a1 fun z => ?_
      have nt1 : t ≠ c := fun e => by
        rw [e] at tt
        unfold TupAt at tt
        rw [upd_same] at tt
        cases tt
      have nt2 : t ≠ p := fun e => by
        rw [e] at tt
        have := s2 _ _ (upd_same (H := H) (a := p) (o := .lst (s.sure.map V.int)))
        rw [show _ = some _ from tt] at this
        cases this
      unfold TupAt at tt
      rw [upd_ne nt1, upd_ne nt2, z] at tt
      cases tt
    refine ⟨t, _, rfl, SqT.of tH, rfl, _, _, rfl, _, _, rfl, rfl, ?_⟩
    refine ⟨_, rfl, _, rfl, _, rfl, p, _, pr.1, pr.1.toNat, rfl, rfl, hp4, ?_, ?_⟩
    · have lt : pr.1.toNat < (((((s.lots.take m).flatten.take n).foldl setP s.sure).map V.int)).length := by
        rw [List.length_map, foldl_setP_len]
        omega
      have e := ixN_of lt
      rw [Int.toNat_of_nonneg rg.1] at e
      exact e
    · refine ⟨upd_new s4 hp, by rw [upd_ne hDp]; exact hD4, ?_, _, _, _, _, rfl⟩
      rw [upd_same, List.take_add_one, hpr, List.foldl_append]
      simp only [Option.toList_some, List.foldl_cons, List.foldl_nil, setP, List.map_set]
  · rintro σ H4 ⟨s4, hD4, hp4, v3, v4, v5, v6, rfl⟩
    refine ⟨_, rfl, q p H4 hp s4 ?_⟩
    rw [hp4, List.length_map, hflat.len, List.take_length]
    rfl
def sp_Disk_shown (K : PySem.W.Frag) : Sp := fun vs H Q _ => ∃ L s, vs = [.ref L.d] ∧ DiskAt K H L s ∧ s.Ok ∧ ∀ p H', H p = none → Same H H' → H' p = some (.lst (s.shown.map V.int)) → Q (.ref p) H'
def t_Disk_shown (K : PySem.W.Frag) : TS := (tRet (tMeth (He.ga K "Disk") "with_lots" (sp_Disk_with_lots K) [] E0 (tVar 0) (tCons (tCB (xLen K) (tCons (tFld K (tVar 0) "open_lots") tNil)) tNil)))
theorem len_Disk_shown {K : PySem.W.Frag} (vs : List V) (H : Hp) (Q : VK) (E : XK) (h : sp_Disk_shown K vs H Q E) : vs.length = (["self"] : List Str).length := by
  unfold sp_Disk_shown at h
  repeat (first | (obtain ⟨e, _⟩ := h; rw [e]; done) | (obtain ⟨e, _⟩ := h; rw [e]; rfl; done) | obtain ⟨_, h⟩ := h)
theorem pure_Disk_shown {K : PySem.W.Frag} (pf : PF K) {vs : List V} {H : Hp} {Q : VK} {E : XK} (h : sp_Disk_shown K vs H Q E) : t_Disk_shown K { nx := fun _ H' => Q .non H', rt := Q } (start ["self"] vs) H := by
  obtain ⟨L, s, rfl, h, ok, q⟩ := h
  obtain ⟨dx, ho⟩ := h.ob
  refine ⟨_, rfl, L.d, dx, _, rfl, ho, rfl, _, rfl, _, _, _, _, _, rfl, ho, pf.cl_Disk, pf.na_Disk_open_lots, rfl, _, _, rfl, .inl (SqL.of h.lo), L, s, s.lots.length, ?_, h, ok, Nat.le_refl _, q⟩
  rw [List.length_map, h.lots.len]
  rfl
def sp_Disk_turn (K : PySem.W.Frag) : Sp := fun vs H Q _ => ∃ L s, vs = [.ref L.d] ∧ DiskAt K H L s ∧ s.left = none ∧ Q .non H
def t_Disk_turn (K : PySem.W.Frag) : TS := (tSeq (tIfS (tTest (tOp rEq (tFld K (tVar 0) "left") (tC (.int 0)))) tNever tNext)
    (tIfS (tTest (tOp xNotN (tFld K (tVar 0) "left") (tC .non))) (sFldAug K (tVar 0) (tC (.int 1)) rSub "left") tNext))
theorem len_Disk_turn {K : PySem.W.Frag} (vs : List V) (H : Hp) (Q : VK) (E : XK) (h : sp_Disk_turn K vs H Q E) : vs.length = (["self"] : List Str).length := by
  unfold sp_Disk_turn at h
  repeat (first | (obtain ⟨e, _⟩ := h; rw [e]; done) | (obtain ⟨e, _⟩ := h; rw [e]; rfl; done) | obtain ⟨_, h⟩ := h)
theorem pure_Disk_turn {K : PySem.W.Frag} (pf : PF K) {vs : List V} {H : Hp} {Q : VK} {E : XK} (h : sp_Disk_turn K vs H Q E) : t_Disk_turn K { nx := fun _ H' => Q .non H', rt := Q } (start ["self"] vs) H := by
  obtain ⟨L, s, rfl, h, hl, q⟩ := h
  obtain ⟨dx, ho⟩ := h.ob
  rw [hl] at ho
  refine ⟨_, rfl, _, _, _, _, _, rfl, ho, pf.cl_Disk, pf.na_Disk_left, rfl, rfl, _, rfl, iteN (by decide) ?_⟩
  exact ⟨_, rfl, _, _, _, _, _, rfl, ho, pf.cl_Disk, pf.na_Disk_left, rfl, rfl, _, rfl, iteN (by decide) q⟩
def sp_Disk_ask_read (K : PySem.W.Frag) : Sp := fun vs H Q _ => ∃ L s room v, vs = [.ref L.d, .int room] ∧ DiskAt K H L s ∧ s.Ok ∧ s.left = none ∧ 0 ≤ room ∧ s.shown[room.toNat]? = some v ∧ ∀ H', Same H H' → Q (.int v) H'
def t_Disk_ask_read (K : PySem.W.Frag) : TS := (tSeq (tDrop (tMeth (He.ga K "Disk") "turn" (sp_Disk_turn K) [] E0 (tVar 0) tNil))
    (tRet (tOp (rIxL K) (tMeth (He.ga K "Disk") "shown" (sp_Disk_shown K) [] E0 (tVar 0) tNil) (tVar 1))))
theorem len_Disk_ask_read {K : PySem.W.Frag} (vs : List V) (H : Hp) (Q : VK) (E : XK) (h : sp_Disk_ask_read K vs H Q E) : vs.length = (["self", "room"] : List Str).length := by
  unfold sp_Disk_ask_read at h
  repeat (first | (obtain ⟨e, _⟩ := h; rw [e]; done) | (obtain ⟨e, _⟩ := h; rw [e]; rfl; done) | obtain ⟨_, h⟩ := h)
theorem pure_Disk_ask_read {K : PySem.W.Frag} (pf : PF K) {vs : List V} {H : Hp} {Q : VK} {E : XK} (h : sp_Disk_ask_read K vs H Q E) : t_Disk_ask_read K { nx := fun _ H' => Q .non H', rt := Q } (start ["self", "room"] vs) H := by
  obtain ⟨L, s, room, v, rfl, h, ok, hl, h0, hv, q⟩ := h
  obtain ⟨dx, ho⟩ := h.ob
  refine ⟨_, rfl, L.d, dx, _, rfl, ho, rfl, L, s, rfl, h, hl, ?_⟩
  refine ⟨_, rfl, L.d, dx, _, rfl, ho, rfl, L, s, rfl, h, ok, fun p H' hp s1 e => ⟨_, rfl, p, _, room, .int v, rfl, rfl, SqL.of e, ?_, q H' s1⟩⟩
  have : room = ((room.toNat : Nat) : Int) := by omega
  rw [this]
  refine atI_of ?_
  rw [List.getElem?_map, hv]
  rfl
end SY

/-! ## Prog, part D: disks' turns, requests, queues -/
namespace SY
open PySem PySem.Spec PyProof.Rows L2 XB
/-- one of them has changed -/
theorem All2.upd_at {α β : Type} {R R' : α → β → Prop} {a : α} {b' : β} : ∀ {xs : List α} {ys : List β} {i : Nat}, All2 R xs ys → xs.Nodup → xs[i]? = some a → R' a b' → (∀ x y, x ∈ xs → x ≠ a → R x y → R' x y) → All2 R' xs (ys.set i b')
  | _, _, _, .nil, _, hi, _, _ => by simp at hi
  | x :: xs, y :: ys, 0, .cons r t, nd, hi, r', f => by
    rw [List.getElem?_cons_zero] at hi
    cases hi
    refine .cons r' (All2.imp t fun u v hu _ h => f u v (List.mem_cons_of_mem _ hu) (fun e => (List.nodup_cons.mp nd).1 (e ▸ hu)) h)
  | x :: xs, y :: ys, i + 1, .cons r t, nd, hi, r', f => by
    rw [List.getElem?_cons_succ] at hi
    have hm := List.mem_of_getElem? hi
    refine .cons (f x y List.mem_cons_self (fun e => (List.nodup_cons.mp nd).1 (e ▸ hm)) r) (All2.upd_at t (List.nodup_cons.mp nd).2 hi r' fun u v hu n h => f u v (List.mem_cons_of_mem _ hu) n h)
def addLast {α : Type} (ls : List (List α)) (x : α) : List (List α) := ls.set (ls.length - 1) ((ls.getLast?.getD []) ++ [x])
def Dsk.write (s : Dsk) (room num : Int) : Dsk := { s with lots := addLast s.lots (room, num) }
def Dsk.barrier (s : Dsk) : Dsk := { s with lots := s.lots ++ [[]] }
def Dsk.flush (s : Dsk) : Dsk := { s with sure := s.shown, lots := [[]] }
def sp_Disk_ask_write (K : PySem.W.Frag) : Sp := fun vs H Q _ => ∃ L s room num, vs = [.ref L.d, .int room, .int num] ∧ DiskAt K H L s ∧ s.Ok ∧ s.left = none ∧ ∀ L' H', DiskAt K H' L' (s.write room num) → L'.d = L.d → Step L.foot L'.foot H H' → Q .non H'
def t_Disk_ask_write (K : PySem.W.Frag) : TS := (tSeq (tDrop (tMeth (He.ga K "Disk") "turn" (sp_Disk_turn K) [] E0 (tVar 0) tNil))
    (tDrop (tBM K "list" rAppend (tOp (rIxL K) (tFld K (tVar 0) "open_lots") (tUn xNeg (tC (.int 1)))) (tCons (tTup (tCons (tVar 1) (tCons (tVar 2) tNil))) tNil))))
theorem len_Disk_ask_write {K : PySem.W.Frag} (vs : List V) (H : Hp) (Q : VK) (E : XK) (h : sp_Disk_ask_write K vs H Q E) : vs.length = (["self", "room", "number"] : List Str).length := by
  unfold sp_Disk_ask_write at h
  repeat (first | (obtain ⟨e, _⟩ := h; rw [e]; done) | (obtain ⟨e, _⟩ := h; rw [e]; rfl; done) | obtain ⟨_, h⟩ := h)
theorem pure_Disk_ask_write {K : PySem.W.Frag} (pf : PF K) {vs : List V} {H : Hp} {Q : VK} {E : XK} (h : sp_Disk_ask_write K vs H Q E) : t_Disk_ask_write K { nx := fun _ H' => Q .non H', rt := Q } (start ["self", "room", "number"] vs) H := by
  obtain ⟨L, s, room, num, rfl, h, ok, hl, q⟩ := h
  obtain ⟨dx, ho⟩ := h.ob
  refine ⟨_, rfl, L.d, dx, _, rfl, ho, rfl, L, s, rfl, h, hl, ?_⟩
  have len := h.lots.len
  have hne : L.lots ≠ [] := fun e => ok.ne (h.lots.nil_iff.mp e)
  have hpos : 0 < L.lots.length := List.length_pos_iff.mpr hne
  obtain ⟨a, ha⟩ : ∃ a, L.lots[L.lots.length - 1]? = some a := ⟨L.lots[L.lots.length - 1], List.getElem?_eq_getElem (by omega)⟩
  obtain ⟨lot, hlot, ts, e, tt⟩ := h.lots.get ha
  have hlast : s.lots.getLast? = some lot := by
    rw [List.getLast?_eq_getElem?, ← len]
    exact hlot
  refine ⟨_, rfl, _, _, _, _, _, rfl, ho, pf.cl_Disk, pf.na_Disk_open_lots, rfl, _, rfl, L.lo, _, -1, .ref a, rfl, rfl, SqL.of h.lo, ?_, ?_⟩
  · refine atI_last ?_
    rw [List.getLast?_map, List.getLast?_eq_getElem?, ha]
    rfl
  refine ⟨.inl ⟨rfl, _, SqL.of e⟩, _, rfl, _, rfl, of_decide_eq_true rfl, fun p hp => ?_⟩
  have s1 := same_upd (o := .tup [.int room, .int num]) hp
  have lz : ts.length ≤ 1000000 := by
    rw [tt.len]
    refine Nat.le_trans ?_ ok.few
    obtain ⟨l1, l2, e⟩ := List.append_of_mem (List.mem_of_getElem? hlot)
    rw [e, List.flatten_append, List.length_append, List.flatten_cons, List.length_append]
    omega
  refine ⟨a, _, .ref p, rfl, rfl, s1 _ _ e, sz_lt (by rw [List.length_map]; omega), ?_⟩
  have k : Step L.foot L.foot H (upd (upd H p (.tup [.int room, .int num])) a (.lst (ts.map V.ref ++ [.ref p]))) := ((Step.refl L.foot H).seq s1).upd (.inr ⟨by
    unfold DL.foot
    simp [List.mem_of_getElem? ha], fun xs => nt_lst (s1 _ _ e)⟩)
  have kd : ∀ c o, H c = some o → c ≠ a → (upd (upd H p (.tup [.int room, .int num])) a (.lst (ts.map V.ref ++ [.ref p]))) c = some o := fun c o e n => by
    rw [upd_ne n]
    exact s1 _ _ e
  have nd := h.nd
  simp only [List.nodup_cons, List.mem_cons, not_or] at nd
  have ham := List.mem_of_getElem? ha
  refine q L _ ⟨⟨dx, kd _ _ ho (fun z => nd.1.2.2 (z ▸ ham))⟩, kd _ _ h.ls (fun z => nd.2.1.2 (z ▸ ham)), kd _ _ h.lo (fun z => nd.2.2.1 (z ▸ ham)), ?_, h.nd⟩ rfl k
  show All2 _ _ (addLast s.lots (room, num))
  unfold addLast
  rw [hlast, ← len]
  refine h.lots.upd_at nd.2.2.2 ha ⟨ts ++ [p], by rw [upd_same, List.map_append]; rfl, (tt.imp fun t q _ _ e2 => kd _ _ e2 (ne_lst_tup e e2)).append (.one ?_)⟩ ?_
  · show upd _ a _ p = _
    rw [upd_ne (ne_of_none e hp).symm, upd_same]
  · rintro x y hx n ⟨us, e2, t2⟩
    exact ⟨us, kd _ _ e2 n, t2.imp fun t q _ _ e3 => kd _ _ e3 (ne_lst_tup e e3)⟩
def sp_Disk_ask_barrier (K : PySem.W.Frag) : Sp := fun vs H Q _ => ∃ L s, vs = [.ref L.d] ∧ DiskAt K H L s ∧ s.Ok ∧ s.left = none ∧ ∀ L' H', DiskAt K H' L' s.barrier → L'.d = L.d → Step L.foot L'.foot H H' → Q .non H'
def t_Disk_ask_barrier (K : PySem.W.Frag) : TS := (tSeq (tDrop (tMeth (He.ga K "Disk") "turn" (sp_Disk_turn K) [] E0 (tVar 0) tNil))
    (tDrop (tBM K "list" rAppend (tFld K (tVar 0) "open_lots") (tCons (tLst tNil) tNil))))
theorem len_Disk_ask_barrier {K : PySem.W.Frag} (vs : List V) (H : Hp) (Q : VK) (E : XK) (h : sp_Disk_ask_barrier K vs H Q E) : vs.length = (["self"] : List Str).length := by
  unfold sp_Disk_ask_barrier at h
  repeat (first | (obtain ⟨e, _⟩ := h; rw [e]; done) | (obtain ⟨e, _⟩ := h; rw [e]; rfl; done) | obtain ⟨_, h⟩ := h)
theorem pure_Disk_ask_barrier {K : PySem.W.Frag} (pf : PF K) {vs : List V} {H : Hp} {Q : VK} {E : XK} (h : sp_Disk_ask_barrier K vs H Q E) : t_Disk_ask_barrier K { nx := fun _ H' => Q .non H', rt := Q } (start ["self"] vs) H := by
  obtain ⟨L, s, rfl, h, ok, hl, q⟩ := h
  obtain ⟨dx, ho⟩ := h.ob
  refine ⟨_, rfl, L.d, dx, _, rfl, ho, rfl, L, s, rfl, h, hl, ?_⟩
  have len := h.lots.len
  have lz := ok.lots
  refine ⟨_, rfl, _, _, _, _, _, rfl, ho, pf.cl_Disk, pf.na_Disk_open_lots, rfl, .inl ⟨rfl, _, SqL.of h.lo⟩, of_decide_eq_true rfl, fun p hp => ?_⟩
  have s1 := same_upd (o := .lst []) hp
  refine ⟨L.lo, _, .ref p, rfl, rfl, s1 _ _ h.lo, sz_lt (by rw [List.length_map]; omega), ?_⟩
  have npo : p ≠ L.lo := (ne_of_none h.lo hp).symm
  have nd := h.nd
  have k : Step L.foot ({ L with lots := L.lots ++ [p] } : DL).foot H (upd (upd H p (.lst [])) L.lo (.lst (L.lots.map V.ref ++ [.ref p]))) := by
    refine (((Step.refl L.foot H).seq s1).upd (.inr ⟨by unfold DL.foot; simp, fun xs => nt_lst (s1 _ _ h.lo)⟩)).sub fun b hb => ?_
    unfold DL.foot at hb ⊢
    simp only [List.mem_cons, List.mem_append, List.not_mem_nil, or_false] at hb ⊢
    rcases hb with hb | hb | hb | hb | hb
    · exact .inl (.inl hb)
    · exact .inl (.inr (.inl hb))
    · exact .inl (.inr (.inr (.inl hb)))
    · exact .inl (.inr (.inr (.inr hb)))
    · exact .inr (hb ▸ hp)
  have kd : ∀ c o, H c = some o → c ≠ L.lo → (upd (upd H p (.lst [])) L.lo (.lst (L.lots.map V.ref ++ [.ref p]))) c = some o := fun c o e n => by
    rw [upd_ne n]
    exact s1 _ _ e
  simp only [List.nodup_cons, List.mem_cons, not_or] at nd
  refine q { L with lots := L.lots ++ [p] } _ ⟨⟨dx, kd _ _ ho (fun z => nd.1.2.1 z)⟩, kd _ _ h.ls (fun z => nd.2.1.1 z), by rw [upd_same, List.map_append]; rfl, ?_, ?_⟩ rfl k
  · show All2 _ _ (s.lots ++ [[]])
    refine All2.append (h.lots.imp ?_) (.one ⟨[], by rw [upd_ne npo, upd_same]; rfl, .nil⟩)
    rintro x y hx _ ⟨us, e2, t2⟩
    exact ⟨us, kd _ _ e2 (fun z => nd.2.2.1 (z ▸ hx)), t2.imp fun t q _ _ e3 => kd _ _ e3 (ne_lst_tup h.lo e3)⟩
  · have hpf : ∀ b, b ∈ L.foot → b ≠ p := fun b hb z => h.has hb (z ▸ hp)
    have nd0 : ((L.d :: L.ls :: L.lo :: L.lots) ++ [p]).Nodup := by
      rw [List.nodup_append]
      refine ⟨h.nd, by simp, fun b hb c hc => ?_⟩
      rw [List.mem_singleton] at hc
      exact hc ▸ hpf b hb
    exact nd0
def sp_Disk_ask_flush (K : PySem.W.Frag) : Sp := fun vs H Q _ => ∃ L s, vs = [.ref L.d] ∧ DiskAt K H L s ∧ s.Ok ∧ s.left = none ∧ ∀ L' H', DiskAt K H' L' s.flush → L'.d = L.d → Step L.foot L'.foot H H' → Q .non H'
def t_Disk_ask_flush (K : PySem.W.Frag) : TS := (tSeq (tDrop (tMeth (He.ga K "Disk") "turn" (sp_Disk_turn K) [] E0 (tVar 0) tNil))
    (tSeq (sFld K (tVar 0) (tMeth (He.ga K "Disk") "shown" (sp_Disk_shown K) [] E0 (tVar 0) tNil) "sure")
    (sFld K (tVar 0) (tLst (tCons (tLst tNil) tNil)) "open_lots")))
theorem len_Disk_ask_flush {K : PySem.W.Frag} (vs : List V) (H : Hp) (Q : VK) (E : XK) (h : sp_Disk_ask_flush K vs H Q E) : vs.length = (["self"] : List Str).length := by
  unfold sp_Disk_ask_flush at h
  repeat (first | (obtain ⟨e, _⟩ := h; rw [e]; done) | (obtain ⟨e, _⟩ := h; rw [e]; rfl; done) | obtain ⟨_, h⟩ := h)
theorem pure_Disk_ask_flush {K : PySem.W.Frag} (pf : PF K) {vs : List V} {H : Hp} {Q : VK} {E : XK} (h : sp_Disk_ask_flush K vs H Q E) : t_Disk_ask_flush K { nx := fun _ H' => Q .non H', rt := Q } (start ["self"] vs) H := by
  obtain ⟨L, s, rfl, h, ok, hl, q⟩ := h
  obtain ⟨dx, ho⟩ := h.ob
  refine ⟨_, rfl, L.d, dx, _, rfl, ho, rfl, L, s, rfl, h, hl, ?_⟩
  refine ⟨_, rfl, L.d, dx, _, rfl, ho, rfl, L, s, rfl, h, ok, fun p H1 hp s1 e1 => ?_⟩
  refine ⟨_, rfl, L.d, _, dx, _, rfl, s1 _ _ ho, pf.cl_Disk, pf.na_Disk_sure, of_decide_eq_true rfl, ?_⟩
  have npd : p ≠ L.d := (ne_of_none ho hp).symm
  refine ⟨of_decide_eq_true rfl, fun a ha => ⟨of_decide_eq_true rfl, fun o hx => ?_⟩⟩
  have nad : a ≠ L.d := fun z => by
    rw [z, upd_same] at ha
    cases ha
  rw [upd_ne nad] at ha
  have nod : o ≠ L.d := fun z => by
    rw [z, upd_ne nad.symm, upd_same] at hx
    cases hx
  have noa : o ≠ a := fun z => by
    rw [z, upd_same] at hx
    cases hx
  rw [upd_ne noa, upd_ne nod] at hx
  have nap : a ≠ p := (ne_of_none e1 ha).symm
  have nop : o ≠ p := (ne_of_none e1 hx).symm
  refine ⟨_, rfl, L.d, _, dx, _, rfl, (upd_ne nod.symm).trans ((upd_ne nad.symm).trans upd_same), pf.cl_Disk, pf.na_Disk_open_lots, of_decide_eq_true rfl, ?_⟩
  refine q ⟨L.d, p, o, [a]⟩ _ ⟨⟨dx, upd_same⟩, ?_, ?_, .one ⟨[], ?_, .nil⟩, ?_⟩ rfl ?_
  · show upd _ L.d _ p = _
    rw [upd_ne npd, upd_ne nop.symm, upd_ne nap.symm, upd_ne npd]
    exact e1
  · show upd _ L.d _ o = _
    rw [upd_ne nod, upd_same]
    rfl
  · show upd _ L.d _ a = _
    rw [upd_ne nad, upd_ne noa.symm, upd_same]
    rfl
  · simp [npd.symm, nod.symm, nad.symm, nop.symm, nap.symm, noa]
  · have hd : L.d ∈ L.foot := by
      unfold DL.foot
      simp
    have k1 := ((Step.refl L.foot H).seq s1).upd (a := L.d) (o := .ins (He.ga K "Disk") dx (putF "sure" (.ref p) (diskF (.ref L.ls) (.ref L.lo) (leftV s.left)))) (.inr ⟨hd, fun xs => nt_ins (s1 _ _ ho)⟩)
    have k2 := k1.seq (same_upd (p := a) (o := .lst []) (by rw [upd_ne nad]; exact ha))
    have k3 := k2.seq (same_upd (p := o) (o := .lst [.ref a]) (by rw [upd_ne noa, upd_ne nod]; exact hx))
    have k4 := k3.upd (a := L.d) (o := .ins (He.ga K "Disk") dx (putF "open_lots" (.ref o) (putF "sure" (.ref p) (diskF (.ref L.ls) (.ref L.lo) (leftV s.left))))) (.inr ⟨hd, fun xs => by rw [upd_ne nod.symm, upd_ne nad.symm, upd_same]; intro z; cases z⟩)
    refine k4.sub fun b hb => ?_
    unfold DL.foot at hb
    simp only [List.mem_cons, List.not_mem_nil, or_false] at hb
    rcases hb with rfl | rfl | rfl | rfl
    · exact .inl hd
    · exact .inr hp
    · exact .inr (s1.free hx)
    · exact .inr (s1.free ha)
end SY

/-! ## Prog, part E: requests, queues -/
namespace SY
open PySem PySem.Spec PyProof.Rows L2 XB
def Que.new (pat : Int) : Que := ⟨pat, [], 0, 0⟩
def Que.put1 (q : Que) (w : Option (Int × Int)) : Que := { q with row := q.row ++ [⟨q.put, w, 0⟩], put := q.put + 1 }
def Que.mine (q : Que) (room : Int) : List Rq := q.row.filter fun r => decide (roomV r.w = .int room)
def Que.fr (q : Que) : Nat := (q.row.takeWhile fun r => r.w.isSome).length
def Que.key (q : Que) (i : Nat) : KT := match q.row[i]? with
  | some ⟨c, some (r, _), _⟩ => (decide (r < q.arm), r, c)
  | _ => (false, 0, 0)
def Que.pick (q : Que) : Nat := match q.row with
  | [] => 0
  | first :: _ => if decide (q.pat ≤ first.seen) = true then 0 else if q.fr = 0 then 0 else argBest (fun i j => kLt (q.key i) (q.key j)) (q.fr - 1)
def Que.served (q : Que) (r : Rq) : Que := { q with row := (q.row.filter fun o => !decide (o.cnt = r.cnt)).map (fun o => { o with seen := o.seen + 1 }), arm := match r.w with | none => q.arm | some p => p.1 }
section
variable {K : PySem.W.Frag} {H H' : Hp} {A A' : List Addr}
theorem ReqAt.same {a : Addr} {r : Rq} (h : ReqAt K H a r) (s : Same H H') : ReqAt K H' a r := h.imp fun dx e => s _ _ e
end
def sp_Request_init (K : PySem.W.Frag) : Sp := fun vs H Q _ => ∃ x dx c w, vs = [.ref x, .int c, roomV w, numV w] ∧ H x = some (.ins (He.ga K "Request") dx []) ∧ ∀ H', ReqAt K H' x ⟨c, w, 0⟩ → Step [x] [x] H H' → Q .non H'
def t_Request_init (K : PySem.W.Frag) : TS := (tSeq (sFld K (tVar 0) (tVar 1) "count")
    (tSeq (sFld K (tVar 0) (tVar 2) "spot")
    (tSeq (sFld K (tVar 0) (tVar 3) "number")
    (sFld K (tVar 0) (tC (.int 0)) "seen"))))
theorem len_Request_init {K : PySem.W.Frag} (vs : List V) (H : Hp) (Q : VK) (E : XK) (h : sp_Request_init K vs H Q E) : vs.length = (["self", "count", "room", "number"] : List Str).length := by
  unfold sp_Request_init at h
  repeat (first | (obtain ⟨e, _⟩ := h; rw [e]; done) | (obtain ⟨e, _⟩ := h; rw [e]; rfl; done) | obtain ⟨_, h⟩ := h)
theorem pure_Request_init {K : PySem.W.Frag} (pf : PF K) {vs : List V} {H : Hp} {Q : VK} {E : XK} (h : sp_Request_init K vs H Q E) : t_Request_init K { nx := fun _ H' => Q .non H', rt := Q } (start ["self", "count", "room", "number"] vs) H := by
  obtain ⟨x, dx, c, w, rfl, hx, q⟩ := h
  refine ⟨_, rfl, _, rfl, x, _, dx, [], rfl, hx, pf.cl_Request, pf.na_Request_count, of_decide_eq_true rfl, ?_⟩
  refine ⟨_, rfl, _, rfl, x, _, dx, _, rfl, upd_same, pf.cl_Request, pf.na_Request_spot, of_decide_eq_true rfl, ?_⟩
  refine ⟨_, rfl, _, rfl, x, _, dx, _, rfl, upd_same, pf.cl_Request, pf.na_Request_number, of_decide_eq_true rfl, ?_⟩
  refine ⟨_, rfl, x, _, dx, _, rfl, upd_same, pf.cl_Request, pf.na_Request_seen, of_decide_eq_true rfl, ?_⟩
  refine q _ ⟨dx, upd_same⟩ ?_
  simp only [upd_upd]
  exact (Step.refl [x] H).upd (.inr ⟨by simp, fun xs => nt_ins hx⟩)
def sp_Request_is_write (K : PySem.W.Frag) : Sp := fun vs H Q _ => ∃ a r, vs = [.ref a] ∧ ReqAt K H a r ∧ Q (.bl r.w.isSome) H
def t_Request_is_write (K : PySem.W.Frag) : TS := (tRet (tOp xNotN (tFld K (tVar 0) "spot") (tC .non)))
theorem len_Request_is_write {K : PySem.W.Frag} (vs : List V) (H : Hp) (Q : VK) (E : XK) (h : sp_Request_is_write K vs H Q E) : vs.length = (["self"] : List Str).length := by
  unfold sp_Request_is_write at h
  repeat (first | (obtain ⟨e, _⟩ := h; rw [e]; done) | (obtain ⟨e, _⟩ := h; rw [e]; rfl; done) | obtain ⟨_, h⟩ := h)
theorem pure_Request_is_write {K : PySem.W.Frag} (pf : PF K) {vs : List V} {H : Hp} {Q : VK} {E : XK} (h : sp_Request_is_write K vs H Q E) : t_Request_is_write K { nx := fun _ H' => Q .non H', rt := Q } (start ["self"] vs) H := by
  obtain ⟨a, r, rfl, ⟨dx, ho⟩, q⟩ := h
  refine ⟨_, rfl, _, _, _, _, _, rfl, ho, pf.cl_Request, pf.na_Request_spot, rfl, rfl, ?_⟩
  have : (!decide (roomV r.w = .non)) = r.w.isSome := by
    cases r.w with
    | none => rfl
    | some p => rfl
  rw [this]
  exact q
def sp_Queue_init (K : PySem.W.Frag) : Sp := fun vs H Q _ => ∃ x dx pat, vs = [.ref x, .int pat] ∧ H x = some (.ins (He.ga K "Queue") dx []) ∧ ∀ L H', QueAt K H' L (Que.new pat) → L.q = x → Step [x] L.foot H H' → Q .non H'
def t_Queue_init (K : PySem.W.Frag) : TS := (tSeq (sFld K (tVar 0) (tVar 1) "patience")
    (tSeq (sFld K (tVar 0) (tLst tNil) "row")
    (tSeq (sFld K (tVar 0) (tC (.int 0)) "put_so_far")
    (sFld K (tVar 0) (tC (.int 0)) "spot"))))
theorem len_Queue_init {K : PySem.W.Frag} (vs : List V) (H : Hp) (Q : VK) (E : XK) (h : sp_Queue_init K vs H Q E) : vs.length = (["self", "patience"] : List Str).length := by
  unfold sp_Queue_init at h
  repeat (first | (obtain ⟨e, _⟩ := h; rw [e]; done) | (obtain ⟨e, _⟩ := h; rw [e]; rfl; done) | obtain ⟨_, h⟩ := h)
theorem pure_Queue_init {K : PySem.W.Frag} (pf : PF K) {vs : List V} {H : Hp} {Q : VK} {E : XK} (h : sp_Queue_init K vs H Q E) : t_Queue_init K { nx := fun _ H' => Q .non H', rt := Q } (start ["self", "patience"] vs) H := by
  obtain ⟨x, dx, pat, rfl, hx, q⟩ := h
  refine ⟨_, rfl, _, rfl, x, _, dx, [], rfl, hx, pf.cl_Queue, pf.na_Queue_patience, of_decide_eq_true rfl, ?_⟩
  refine ⟨of_decide_eq_true rfl, fun p hp => ⟨_, rfl, x, _, dx, _, rfl, (upd_ne (ne_of_none upd_same hp)).trans upd_same, pf.cl_Queue, pf.na_Queue_row, of_decide_eq_true rfl, ?_⟩⟩
  have npx : p ≠ x := (ne_of_none upd_same hp).symm
  refine ⟨_, rfl, x, _, dx, _, rfl, upd_same, pf.cl_Queue, pf.na_Queue_put_so_far, of_decide_eq_true rfl, ?_⟩
  refine ⟨_, rfl, x, _, dx, _, rfl, upd_same, pf.cl_Queue, pf.na_Queue_spot, of_decide_eq_true rfl, ?_⟩
  refine q ⟨x, p, []⟩ _ ⟨⟨dx, upd_same⟩, ?_, .nil, by simp [npx.symm]⟩ rfl ?_
  · show upd _ x _ p = _
    rw [upd_ne npx, upd_ne npx, upd_ne npx, upd_same]
    rfl
  · simp only [upd_upd]
    have k1 := (Step.refl [x] H).upd (a := x) (o := .ins (He.ga K "Queue") dx (putF "patience" (.int pat) [])) (.inr ⟨by simp, fun xs => nt_ins hx⟩)
    have k2 := k1.seq (same_upd (o := .lst []) hp)
    rw [upd_ne npx] at hp
    refine (k2.upd (.inr ⟨by simp, fun xs => by rw [upd_ne npx.symm, upd_same]; intro z; cases z⟩)).sub fun b hb => ?_
    unfold QL.foot at hb
    simp only [List.mem_cons, List.not_mem_nil, or_false] at hb
    rcases hb with rfl | rfl
    · exact .inl (by simp)
    · exact .inr hp
def sp_Queue_put (K : PySem.W.Frag) : Sp := fun vs H Q _ => ∃ L s w, vs = [.ref L.q, roomV w, numV w] ∧ QueAt K H L s ∧ s.row.length ≤ 1000000 ∧ ∀ L' H', QueAt K H' L' (s.put1 w) → L'.q = L.q → Step L.foot L'.foot H H' → Q .non H'
def t_Queue_put (K : PySem.W.Frag) : TS := (tSeq (tDrop (tBM K "list" rAppend (tFld K (tVar 0) "row") (tCons (tMake (He.ga K "Request") (sp_Request_init K) [] E0 (tCons (tFld K (tVar 0) "put_so_far") (tCons (tVar 1) (tCons (tVar 2) tNil)))) tNil)))
    (sFldAug K (tVar 0) (tC (.int 1)) rAdd "put_so_far"))
theorem len_Queue_put {K : PySem.W.Frag} (vs : List V) (H : Hp) (Q : VK) (E : XK) (h : sp_Queue_put K vs H Q E) : vs.length = (["self", "room", "number"] : List Str).length := by
  unfold sp_Queue_put at h
  repeat (first | (obtain ⟨e, _⟩ := h; rw [e]; done) | (obtain ⟨e, _⟩ := h; rw [e]; rfl; done) | obtain ⟨_, h⟩ := h)
theorem pure_Queue_put {K : PySem.W.Frag} (pf : PF K) {vs : List V} {H : Hp} {Q : VK} {E : XK} (h : sp_Queue_put K vs H Q E) : t_Queue_put K { nx := fun _ H' => Q .non H', rt := Q } (start ["self", "room", "number"] vs) H := by
  obtain ⟨L, s, w, rfl, h, hz, q⟩ := h
  obtain ⟨dx, ho⟩ := h.ob
  have len := h.rs.len
  refine ⟨_, rfl, _, _, _, _, _, rfl, ho, pf.cl_Queue, pf.na_Queue_row, rfl, .inl ⟨rfl, _, SqL.of h.lr⟩, ?_⟩
  refine ⟨_, rfl, _, _, _, _, _, rfl, ho, pf.cl_Queue, pf.na_Queue_put_so_far, rfl, _, rfl, _, rfl, fun x dy hx hd hxd => ?_⟩
  have k0 := Step.made (C := He.ga K "Request") hx hd
  refine ⟨x, dy, s.put, w, rfl, upd_same, fun H1 r1 k1 => ⟨rfl, ?_⟩⟩
  have k2 : Step L.foot (x :: L.foot) H H1 := (k0.trans k1).frame (fun b z => by simp at z) fun b hb => by
    rw [List.mem_cons] at hb
    exact hb.imp (fun z => by simp [z]) id
  have kk : ∀ c o, H c = some o → H1 c = some o := fun c o e => (k0.trans k1).kp c o e (by simp)
  have hr := kk _ _ h.lr
  refine ⟨L.lr, _, .ref x, rfl, rfl, hr, sz_lt (by rw [List.length_map]; omega), ?_⟩
  have nq : L.q ≠ L.lr := ne_lst_ins hr (kk _ _ ho)
  refine ⟨_, rfl, L.q, _, dx, _, _, rfl, (upd_ne nq).trans (kk _ _ ho), pf.cl_Queue, pf.na_Queue_put_so_far, rfl, ?_⟩
  refine ⟨_, _, rfl, rfl, dx, _, (upd_ne nq).trans (kk _ _ ho), of_decide_eq_true rfl, ?_⟩
  have k3 : Step L.foot (x :: L.foot) H _ := (k2.upd (a := L.lr) (o := .lst (L.rs.map V.ref ++ [.ref x])) (.inr ⟨by unfold QL.foot; simp, fun xs => nt_lst hr⟩)).upd (a := L.q) (o := .ins (He.ga K "Queue") dx (putF "put_so_far" (.int (s.put + 1)) (queF (.int s.pat) (.ref L.lr) (.int s.put) (.int s.arm)))) (.inr ⟨by unfold QL.foot; simp, fun xs => by rw [upd_ne nq]; exact nt_ins (kk _ _ ho)⟩)
  have kd : ∀ c o, H1 c = some o → c ≠ L.lr → c ≠ L.q → (upd (upd H1 L.lr (.lst (L.rs.map V.ref ++ [.ref x]))) L.q (.ins (He.ga K "Queue") dx (putF "put_so_far" (.int (s.put + 1)) (queF (.int s.pat) (.ref L.lr) (.int s.put) (.int s.arm))))) c = some o := fun c o e n m => by
    rw [upd_ne m, upd_ne n]
    exact e
  have nd := h.nd
  simp only [List.nodup_cons, List.mem_cons, not_or] at nd
  have nx : ∀ b, b ∈ L.foot → b ≠ x := fun b hb z => h.has hb (z ▸ hx)
  have xr : x ≠ L.lr := (nx _ (by unfold QL.foot; simp)).symm
  have xq : x ≠ L.q := (nx _ (by unfold QL.foot; simp)).symm
  refine q { L with rs := L.rs ++ [x] } _ ⟨⟨dx, upd_same⟩, ?_, ?_, ?_⟩ rfl (k3.sub fun b hb => ?_)
  · show upd _ L.q _ L.lr = _
    rw [upd_ne nq.symm, upd_same, List.map_append]
    rfl
  · show All2 _ _ (s.row ++ _)
    refine All2.append (h.rs.imp ?_) (.one ?_)
    · rintro a r ha _ ⟨dz, e⟩
      exact ⟨dz, kd _ _ (kk _ _ e) (fun z => nd.2.1 (z ▸ ha)) (fun z => nd.1.2 (z ▸ ha))⟩
    · exact r1.imp fun dz e => kd _ _ e xr xq
  · have nd0 : ((L.q :: L.lr :: L.rs) ++ [x]).Nodup := by
      rw [List.nodup_append]
      refine ⟨h.nd, by simp, fun b hb c hc => ?_⟩
      rw [List.mem_singleton] at hc
      exact hc ▸ nx b hb
    exact nd0
  · unfold QL.foot at hb ⊢
    simp only [List.mem_cons, List.mem_append, List.not_mem_nil, or_false] at hb ⊢
    rcases hb with hb | hb | hb | hb
    · exact .inl (.inr (.inl hb))
    · exact .inl (.inr (.inr (.inl hb)))
    · exact .inl (.inr (.inr (.inr hb)))
    · exact .inl (.inl hb)
theorem reqAt_inj {K : PySem.W.Frag} {H : Hp} {a : Addr} {r r' : Rq} (h : ReqAt K H a r) (h' : ReqAt K H a r') : r = r' := by
  obtain ⟨dx, e⟩ := h
  obtain ⟨dy, e'⟩ := h'
  rw [e] at e'
  obtain ⟨c, w, s⟩ := r
  obtain ⟨c', w', s'⟩ := r'
  have e2 := Option.some.inj e'
  injection e2 with _ _ e3
  unfold reqF at e3
  simp only [List.cons.injEq, Prod.mk.injEq, V.int.injEq, true_and, and_true] at e3
  obtain ⟨rfl, h1, h2, rfl⟩ := e3
  congr 1
  cases w with
  | none =>
    cases w' with
    | none => rfl
    | some p => cases h1
  | some p =>
    cases w' with
    | none => cases h1
    | some q =>
      obtain ⟨p1, p2⟩ := p
      obtain ⟨q1, q2⟩ := q
      cases h1
      cases h2
      rfl
def sp_Queue_newest (K : PySem.W.Frag) : Sp := fun vs H Q _ => ∃ L s room, vs = [.ref L.q, .int room] ∧ QueAt K H L s ∧ s.row.length ≤ 1000000 ∧ ((s.mine room).getLast? = none → ∀ H', Same H H' → Q .non H') ∧ (∀ r a, (s.mine room).getLast? = some r → ReqAt K H a r → ∀ H', Same H H' → Q (.ref a) H')
def t_Queue_newest (K : PySem.W.Frag) : TS := (tSeq (tAsg (tLc (iList K (tFld K (tVar 0) "row")) (gName 3) (tTest (tOp rEq (tFld K (tVar 3) "spot") (tVar 1))) (tVar 3) [3]) (gName 2))
    (tRet (tIf (tTest (tOp (rNeE K) (tVar 2) (tLst tNil))) (tOp (rIxL K) (tVar 2) (tUn xNeg (tC (.int 1)))) (tC .non))))
theorem len_Queue_newest {K : PySem.W.Frag} (vs : List V) (H : Hp) (Q : VK) (E : XK) (h : sp_Queue_newest K vs H Q E) : vs.length = (["self", "room"] : List Str).length := by
  unfold sp_Queue_newest at h
  repeat (first | (obtain ⟨e, _⟩ := h; rw [e]; done) | (obtain ⟨e, _⟩ := h; rw [e]; rfl; done) | obtain ⟨_, h⟩ := h)
theorem pure_Queue_newest {K : PySem.W.Frag} (pf : PF K) {vs : List V} {H : Hp} {Q : VK} {E : XK} (h : sp_Queue_newest K vs H Q E) : t_Queue_newest K { nx := fun _ H' => Q .non H', rt := Q } (start ["self", "room", "found", "request"] vs) H := by
  obtain ⟨L, s, room, rfl, h, hz, q0, q1⟩ := h
  obtain ⟨dx, ho⟩ := h.ob
  have len := h.rs.len
  refine ⟨_, rfl, _, _, _, _, _, rfl, ho, pf.cl_Queue, pf.na_Queue_row, rfl, _, rfl, ⟨_, SqL.of h.lr⟩, ?_⟩
  refine comp_keep (fun r : Rq => decide (roomV r.w = .int room)) h.rs (SqL.of h.lr) (by omega) ?_ ?_ ?_
  · exact of_decide_eq_true rfl
  · rintro a y ha ⟨dy, e⟩ H1 s1 R r
    have e1 := s1 _ _ e
    refine ⟨_, rfl, _, _, _, _, _, rfl, e1, pf.cl_Request, pf.na_Request_spot, rfl, _, rfl, ?_, _, rfl, r H1 (Same.refl H1)⟩
    cases y.w <;> rfl
  · intro p H1 hp s1 hv
    have kA := keep2_all (fun r : Rq => decide (roomV r.w = .int room)) h.rs
    refine ⟨_, rfl, of_decide_eq_true rfl, fun c hc => ⟨p, c, _, rfl, rfl, SqL.of (same_upd hc _ _ hv), SqL.of upd_same, _, rfl, ?_⟩⟩
    have s2 := s1.trans (same_upd (o := .lst []) hc)
    cases hl : (s.mine room).getLast? with
    | none =>
      have : s.mine room = [] := List.getLast?_eq_none_iff.mp hl
      have e0 : keep2 (fun r : Rq => decide (roomV r.w = .int room)) L.rs s.row = [] := kA.nil_iff.mpr this
      rw [e0]
      exact iteF (q0 hl _ s2)
    | some r =>
      have hl2 := hl
      rw [List.getLast?_eq_getElem?] at hl2
      obtain ⟨a, ha, ra⟩ := kA.get2 hl2
      have hne : (keep2 (fun r : Rq => decide (roomV r.w = .int room)) L.rs s.row) ≠ [] := fun z => by
        rw [z] at ha
        simp at ha
      refine iteY ?_ ⟨_, rfl, _, rfl, p, _, -1, .ref a, rfl, rfl, SqL.of (same_upd hc _ _ hv), ?_, q1 r a hl ra _ s2⟩
      · cases e : keep2 (fun r : Rq => decide (roomV r.w = .int room)) L.rs s.row with
        | nil => exact absurd e hne
        | cons x y => rfl
      · refine atI_last ?_
        rw [List.getLast?_map, List.getLast?_eq_getElem?, kA.len]
        have : (s.mine room) = s.row.filter fun r => decide (roomV r.w = .int room) := rfl
        rw [← this, ha]
        rfl
theorem fr_le (q : Que) : q.fr ≤ q.row.length := (List.takeWhile_sublist _).length_le
theorem takeWhile_at {α : Type} {p : α → Bool} : ∀ {xs : List α} {n : Nat} {x : α}, xs[n]? = some x → p x = false → (∀ y ∈ xs.take n, p y = true) → (xs.takeWhile p).length = n
  | [], n, x, h, _, _ => by simp at h
  | y :: ys, 0, x, h, hp, _ => by
    rw [List.getElem?_cons_zero] at h
    cases h
    simp [List.takeWhile_cons, hp]
  | y :: ys, n + 1, x, h, hp, ha => by
    rw [List.getElem?_cons_succ] at h
    have hy := ha y (by simp)
    rw [List.takeWhile_cons, if_pos hy, List.length_cons, takeWhile_at h hp fun z hz => ha z (by simp [hz])]
theorem takeWhile_all {α : Type} {p : α → Bool} : ∀ {xs : List α}, (∀ y ∈ xs, p y = true) → (xs.takeWhile p).length = xs.length
  | [], _ => rfl
  | y :: ys, h => by
    rw [List.takeWhile_cons, if_pos (h y (by simp)), List.length_cons, takeWhile_all fun z hz => h z (by simp [hz]), List.length_cons]
theorem fr_write {q : Que} {i : Nat} (hi : i < q.fr) : ∃ c p s, q.row[i]? = some ⟨c, some p, s⟩ := by
  have : ∀ {xs : List Rq} {i : Nat}, i < (xs.takeWhile fun r => r.w.isSome).length → ∃ c p s, xs[i]? = some ⟨c, some p, s⟩ := by
    intro xs
    induction xs with
    | nil => intro i h; simp at h
    | cons x xs ih =>
      intro i h
      rw [List.takeWhile_cons] at h
      split at h
      · rename_i hx
        cases i with
        | zero =>
          obtain ⟨c, w, s⟩ := x
          cases w with
          | none => simp at hx
          | some p => exact ⟨c, p, s, rfl⟩
        | succ i => exact ih (by simpa using h)
      · simp at h
  exact this hi
def sp_Queue_free (K : PySem.W.Frag) : Sp := fun vs H Q _ => ∃ L s, vs = [.ref L.q] ∧ QueAt K H L s ∧ s.row.length ≤ 1000000 ∧ ∀ p H', H p = none → Same H H' → H' p = some (.lst ((L.rs.take s.fr).map V.ref)) → Q (.ref p) H'
def t_Queue_free (K : PySem.W.Frag) : TS := (tSeq (tAsg (tLst tNil) (gName 1))
    (tSeq (tFor (iList K (tFld K (tVar 0) "row")) (gName 2) (tSeq (tIfS (tNot (tB (tMeth (He.ga K "Request") "is_write" (sp_Request_is_write K) [] E0 (tVar 2) tNil))) (tRet (tVar 1)) tNext)
    (tDrop (tBM K "list" rAppend (tVar 1) (tCons (tVar 2) tNil)))))
    (tRet (tVar 1))))
theorem len_Queue_free {K : PySem.W.Frag} (vs : List V) (H : Hp) (Q : VK) (E : XK) (h : sp_Queue_free K vs H Q E) : vs.length = (["self"] : List Str).length := by
  unfold sp_Queue_free at h
  repeat (first | (obtain ⟨e, _⟩ := h; rw [e]; done) | (obtain ⟨e, _⟩ := h; rw [e]; rfl; done) | obtain ⟨_, h⟩ := h)
theorem pure_Queue_free {K : PySem.W.Frag} (pf : PF K) {vs : List V} {H : Hp} {Q : VK} {E : XK} (h : sp_Queue_free K vs H Q E) : t_Queue_free K { nx := fun _ H' => Q .non H', rt := Q } (start ["self", "found", "request"] vs) H := by
  obtain ⟨L, s, rfl, h, hz, q⟩ := h
  obtain ⟨dx, ho⟩ := h.ob
  have len := h.rs.len
  refine ⟨of_decide_eq_true rfl, fun D hD => ?_⟩
  have s1 := same_upd (o := .lst []) hD
  have ho1 := s1 _ _ ho
  refine ⟨_, rfl, _, _, _, _, _, rfl, ho1, pf.cl_Queue, pf.na_Queue_row, rfl, _, rfl, ⟨_, SqL.of (s1 _ _ h.lr)⟩, ?_⟩
  refine for_list (xs := L.rs.map V.ref) (fun n σ H1 => Same H H1 ∧ H1 D = some (.lst ((L.rs.take n).map V.ref)) ∧ (∀ r ∈ s.row.take n, r.w.isSome = true) ∧ ∃ v2, σ = [some (.ref L.q), some (.ref D), v2])
    ⟨s1, by rw [upd_same]; rfl, by simp, _, rfl⟩ (fun n σ H1 _ h1 => SqL.of (h1.1 _ _ h.lr)) ?_ ?_
  · rintro n x σ H1 hx ⟨s2, hv, hw, v2, rfl⟩
    rw [List.getElem?_map] at hx
    obtain ⟨a, ha, rfl⟩ := Option.map_eq_some_iff.mp hx
    obtain ⟨y, hy, r⟩ := h.rs.get ha
    obtain ⟨dy, e⟩ := ReqAt.same r s2
    refine ⟨_, rfl, a, dy, _, rfl, e, rfl, a, y, rfl, ⟨dy, e⟩, _, rfl, ?_⟩
    cases hs : y.w.isSome with
    | false =>
      refine iteT ⟨_, rfl, q D H1 hD s2 ?_⟩
      have : s.fr = n := takeWhile_at hy hs hw
      rw [this]
      exact hv
    | true =>
      refine iteF ?_
      refine ⟨_, rfl, .inl ⟨rfl, _, SqL.of hv⟩, _, rfl, D, _, _, rfl, rfl, hv, sz_lt ?_, upd_new s2 hD, ?_, ?_, _, rfl⟩
      · rw [List.length_map, List.length_take]
        omega
      · rw [upd_same, take_one ha, List.map_append]
        rfl
      · rw [take_one hy]
        intro r hr
        rcases List.mem_append.mp hr with z | z
        · exact hw r z
        · rw [List.mem_singleton] at z
          exact z ▸ hs
  · rintro σ H1 ⟨s2, hv, hw, v2, rfl⟩
    refine ⟨_, rfl, q D H1 hD s2 ?_⟩
    rw [List.length_map, len, List.take_length] at hw
    have : s.fr = s.row.length := takeWhile_all hw
    rw [this, ← len]
    rw [List.length_map] at hv
    exact hv
def sp_Queue_by_arm (K : PySem.W.Frag) : Sp := fun vs H Q _ => ∃ qa a dx pat lr put arm c room num seen, vs = [.ref qa, .ref a] ∧ H qa = some (.ins (He.ga K "Queue") dx (queF pat lr put (.int arm))) ∧ ReqAt K H a ⟨c, some (room, num), seen⟩ ∧ ∀ p, H p = none → Q (.ref p) (upd H p (.tup (kV3 (decide (room < arm), room, c))))
def t_Queue_by_arm (K : PySem.W.Frag) : TS := (tRet (tTup (tCons (tOp xLt (tFld K (tVar 1) "spot") (tFld K (tVar 0) "spot")) (tCons (tFld K (tVar 1) "spot") (tCons (tFld K (tVar 1) "count") tNil)))))
theorem len_Queue_by_arm {K : PySem.W.Frag} (vs : List V) (H : Hp) (Q : VK) (E : XK) (h : sp_Queue_by_arm K vs H Q E) : vs.length = (["self", "request"] : List Str).length := by
  unfold sp_Queue_by_arm at h
  repeat (first | (obtain ⟨e, _⟩ := h; rw [e]; done) | (obtain ⟨e, _⟩ := h; rw [e]; rfl; done) | obtain ⟨_, h⟩ := h)
theorem pure_Queue_by_arm {K : PySem.W.Frag} (pf : PF K) {vs : List V} {H : Hp} {Q : VK} {E : XK} (h : sp_Queue_by_arm K vs H Q E) : t_Queue_by_arm K { nx := fun _ H' => Q .non H', rt := Q } (start ["self", "request"] vs) H := by
  obtain ⟨qa, a, dx, pat, lr, put, arm, c, room, num, seen, rfl, ho, ⟨dy, e⟩, q⟩ := h
  exact ⟨_, rfl, _, _, _, _, _, rfl, e, pf.cl_Request, pf.na_Request_spot, rfl, _, rfl, _, _, _, _, _, rfl, ho, pf.cl_Queue, pf.na_Queue_spot, rfl, _, _, rfl, rfl, _, rfl, _, _, _, _, _, rfl, e, pf.cl_Request, pf.na_Request_spot, rfl, _, rfl, _, _, _, _, _, rfl, e, pf.cl_Request, pf.na_Request_count, rfl, of_decide_eq_true rfl, q⟩
def sp_Queue_choice (K : PySem.W.Frag) : Sp := fun vs H Q _ => ∃ L s, vs = [.ref L.q] ∧ QueAt K H L s ∧ s.row.length ≤ 1000000 ∧ s.row ≠ [] ∧ ∀ a r H', L.rs[s.pick]? = some a → s.row[s.pick]? = some r → ReqAt K H a r → Same H H' → Q (.ref a) H'
def t_Queue_choice (K : PySem.W.Frag) : TS := (tSeq (tAsg (tFld K (tVar 0) "row") (gStar K (gCons (gName 1) (gCons (gName 2) gNil))))
    (tSeq (tAsg (tMeth (He.ga K "Queue") "free" (sp_Queue_free K) [] E0 (tVar 0) tNil) (gName 3))
    (tSeq (tIfS (tOr (tTest (tOp xGe (tFld K (tVar 1) "seen") (tFld K (tVar 0) "patience"))) (tTest (tOp (rEqE K) (tVar 3) (tLst tNil)))) (tRet (tVar 1)) tNext)
    (tRet (tCKw (rMinKey K (He.fAd K ("Queue", some "by_arm")) (sp_Queue_by_arm K)) (tCons (tVar 3) tNil) (tCons (tBnd (He.ga K "Queue") "by_arm" (He.fAd K ("Queue", some "by_arm")) (tVar 0)) tNil))))))
theorem len_Queue_choice {K : PySem.W.Frag} (vs : List V) (H : Hp) (Q : VK) (E : XK) (h : sp_Queue_choice K vs H Q E) : vs.length = (["self"] : List Str).length := by
  unfold sp_Queue_choice at h
  repeat (first | (obtain ⟨e, _⟩ := h; rw [e]; done) | (obtain ⟨e, _⟩ := h; rw [e]; rfl; done) | obtain ⟨_, h⟩ := h)
theorem pure_Queue_choice {K : PySem.W.Frag} (pf : PF K) {vs : List V} {H : Hp} {Q : VK} {E : XK} (h : sp_Queue_choice K vs H Q E) : t_Queue_choice K { nx := fun _ H' => Q .non H', rt := Q } (start ["self", "first", "rest", "writes"] vs) H := by
  obtain ⟨L, s, rfl, h, hz, hne, q⟩ := h
  obtain ⟨dx, ho⟩ := h.ob
  have len := h.rs.len
  obtain ⟨x, xs, hL⟩ : ∃ x xs, L.rs = x :: xs := by
    cases e : L.rs with
    | nil => exact absurd (h.rs.nil_iff.mp e) hne
    | cons x xs => exact ⟨x, xs, rfl⟩
  obtain ⟨y, ys, hR⟩ : ∃ y ys, s.row = y :: ys := by
    cases e : s.row with
    | nil => exact absurd e hne
    | cons x xs => exact ⟨x, xs, rfl⟩
  have hx0 : L.rs[0]? = some x := by rw [hL]; rfl
  have hy0 : s.row[0]? = some y := by rw [hR]; rfl
  have rx : ReqAt K H x y := by
    obtain ⟨y', hy', r⟩ := h.rs.get hx0
    rw [hy0] at hy'
    cases hy'
    exact r
  refine ⟨_, rfl, _, _, _, _, _, rfl, ho, pf.cl_Queue, pf.na_Queue_row, rfl, L.lr, .ref x, xs.map V.ref, rfl, SqL.of (by rw [h.lr, hL]; rfl), fun p hp => ⟨_, _, rfl, _, _, rfl, rfl, ?_⟩⟩
  have s1 := same_upd (o := .lst (xs.map V.ref)) hp
  have h1 := h.same s1
  obtain ⟨dx1, ho1⟩ := h1.ob
  refine ⟨_, rfl, L.q, dx1, _, rfl, ho1, rfl, L, s, rfl, h1, hz, fun w H2 hw s2 hv => ?_⟩
  have s3 := s1.trans s2
  obtain ⟨dy, e⟩ := rx
  have e3 := s3 _ _ e
  have ho3 := s3 _ _ ho
  refine ⟨_, rfl, _, _, _, _, _, rfl, e3, pf.cl_Request, pf.na_Request_seen, rfl, _, rfl, _, _, _, _, _, rfl, ho3, pf.cl_Queue, pf.na_Queue_patience, rfl, _, _, rfl, rfl, _, rfl, ?_⟩
  have done : s.pick = 0 → ∀ H', Same H H' → Q (.ref x) H' := fun z H' s' => q x y H' (by rw [z]; exact hx0) (by rw [z]; exact hy0) ⟨dy, e⟩ s'
  cases hc : decide (s.pat ≤ y.seen) with
  | true =>
    refine iteT (iteT ⟨_, rfl, done ?_ H2 s3⟩)
    unfold Que.pick
    rw [hR]
    simp only [hc, if_true]
  | false =>
    refine iteF ⟨_, rfl, of_decide_eq_true rfl, fun c hc2 => ⟨w, c, _, rfl, rfl, SqL.of (same_upd hc2 _ _ hv), SqL.of upd_same, _, rfl, ?_⟩⟩
    have s4 := s3.trans (same_upd (o := .lst []) hc2)
    by_cases hf : s.fr = 0
    · rw [hf]
      refine iteT ⟨_, rfl, done ?_ _ s4⟩
      unfold Que.pick
      rw [hR]
      simp only [hc, Bool.false_eq_true, if_false, hf, if_true]
    · have hpk : s.pick = argBest (fun i j => kLt (s.key i) (s.key j)) (s.fr - 1) := by
        unfold Que.pick
        rw [hR]
        simp only [hc, Bool.false_eq_true, if_false, hf]
      have frl := fr_le s
      have tl : (L.rs.take s.fr).length = s.fr := by
        rw [List.length_take]
        omega
      refine iteN ?_ ?_
      · cases e : (L.rs.take s.fr).map V.ref with
        | nil =>
          have := congrArg List.length e
          rw [List.length_map, tl] at this
          exact absurd this hf
        | cons a b => rfl
      have ho4 := s4 _ _ ho
      refine ⟨_, rfl, ⟨_, rfl, L.q, dx, _, rfl, ho4, rfl, fun m hm => ?_⟩⟩
      have s5 := same_upd (o := .met (He.fAd K ("Queue", some "by_arm")) L.q) hm
      have s6 := s4.trans s5
      refine ⟨w, m, L.q, L.rs.take s.fr, s.key, rfl, rfl, SqL.of (s5 _ _ (same_upd hc2 _ _ hv)), upd_same, by omega, ?_, ?_⟩
      · intro i a ha H7 s7
        have hi : i < s.fr := by
          have := (List.getElem?_eq_some_iff.mp ha).1
          omega
        have ha2 : L.rs[i]? = some a := by
          rw [List.getElem?_take_of_lt hi] at ha
          exact ha
        obtain ⟨c, ⟨room, num⟩, seen, hr⟩ := fr_write hi
        obtain ⟨r', hr', ra⟩ := h.rs.get ha2
        rw [hr] at hr'
        cases hr'
        refine ⟨L.q, a, dx, _, _, _, s.arm, c, room, num, seen, rfl, s7 _ _ (s6 _ _ ho), ra.same (s6.trans s7), fun p hp => ⟨p, rfl, hp, ?_⟩⟩
        have : s.key i = (decide (room < s.arm), room, c) := by
          unfold Que.key
          rw [hr]
        rw [this]
      · intro a H7 ha s7
        rw [tl] at ha
        have hlt : argBest (fun i j => kLt (s.key i) (s.key j)) (s.fr - 1) < s.fr := by
          have := (List.getElem?_eq_some_iff.mp ha).1
          omega
        rw [List.getElem?_take_of_lt hlt, ← hpk] at ha
        obtain ⟨r, hr, ra⟩ := h.rs.get ha
        exact q a r H7 ha hr ra (s6.trans s7)
theorem map_step {α : Type} {f : α → α} {xs : List α} {n : Nat} {x : α} (h : xs[n]? = some x) : ((xs.take n).map f ++ xs.drop n).set n (f x) = (xs.take (n + 1)).map f ++ xs.drop (n + 1) := by
  have hn := (List.getElem?_eq_some_iff.mp h).1
  have e : xs.drop n = x :: xs.drop (n + 1) := by
    rw [← List.getElem_cons_drop hn]
    congr 1
    exact (List.getElem?_eq_some_iff.mp h).2
  rw [e, take_one h, List.map_append, List.append_assoc]
  have l : ((xs.take n).map f).length = n := by
    rw [List.length_map, List.length_take]
    omega
  rw [List.set_append_right _ _ (by omega), l, Nat.sub_self]
  rfl
theorem map_at {α : Type} {f : α → α} {xs : List α} {n : Nat} {x : α} (h : xs[n]? = some x) : ((xs.take n).map f ++ xs.drop n)[n]? = some x := by
  have hn := (List.getElem?_eq_some_iff.mp h).1
  have l : ((xs.take n).map f).length = n := by
    rw [List.length_map, List.length_take]
    omega
  rw [List.getElem?_append_right (by omega), l, Nat.sub_self, List.getElem?_drop]
  exact h
def Rq.inc (o : Rq) : Rq := { o with seen := o.seen + 1 }
def sp_Queue_served (K : PySem.W.Frag) : Sp := fun vs H Q _ => ∃ L s a r, vs = [.ref L.q, .ref a] ∧ QueAt K H L s ∧ s.row.length ≤ 1000000 ∧ ReqAt K H a r ∧ ∀ L' H', QueAt K H' L' (s.served r) → L'.q = L.q → Step L.foot L'.foot H H' → ReqAt K H' a r → Q .non H'
def t_Queue_served (K : PySem.W.Frag) : TS := (tSeq (sFld K (tVar 0) (tLc (iList K (tFld K (tVar 0) "row")) (gName 2) (tTest (tOp rNe (tFld K (tVar 2) "count") (tFld K (tVar 1) "count"))) (tVar 2) [2]) "row")
    (tSeq (tFor (iList K (tFld K (tVar 0) "row")) (gName 2) (sFldAug K (tVar 2) (tC (.int 1)) rAdd "seen"))
    (tIfS (tB (tMeth (He.ga K "Request") "is_write" (sp_Request_is_write K) [] E0 (tVar 1) tNil)) (sFld K (tVar 0) (tFld K (tVar 1) "spot") "spot") tNext)))
theorem len_Queue_served {K : PySem.W.Frag} (vs : List V) (H : Hp) (Q : VK) (E : XK) (h : sp_Queue_served K vs H Q E) : vs.length = (["self", "request"] : List Str).length := by
  unfold sp_Queue_served at h
  repeat (first | (obtain ⟨e, _⟩ := h; rw [e]; done) | (obtain ⟨e, _⟩ := h; rw [e]; rfl; done) | obtain ⟨_, h⟩ := h)
theorem pure_Queue_served {K : PySem.W.Frag} (pf : PF K) {vs : List V} {H : Hp} {Q : VK} {E : XK} (h : sp_Queue_served K vs H Q E) : t_Queue_served K { nx := fun _ H' => Q .non H', rt := Q } (start ["self", "request", "other"] vs) H := by
  obtain ⟨L, s, a, r, rfl, h, hz, ra, q⟩ := h
  obtain ⟨dx, ho⟩ := h.ob
  have len := h.rs.len
  have nd := h.nd
  simp only [List.nodup_cons, List.mem_cons, not_or] at nd
  refine ⟨_, rfl, _, _, _, _, _, rfl, ho, pf.cl_Queue, pf.na_Queue_row, rfl, _, rfl, ⟨_, SqL.of h.lr⟩, ?_⟩
  refine comp_keep (fun o : Rq => !decide (o.cnt = r.cnt)) h.rs (SqL.of h.lr) (by omega) ?_ ?_ ?_
  · exact of_decide_eq_true rfl
  · rintro b y hb ⟨dy, e⟩ H1 s1 R rr
    have e1 := s1 _ _ e
    obtain ⟨dz, e2⟩ := ra.same s1
    refine ⟨_, rfl, _, _, _, _, _, rfl, e1, pf.cl_Request, pf.na_Request_count, rfl, _, rfl, _, _, _, _, _, rfl, e2, pf.cl_Request, pf.na_Request_count, rfl, rfl, _, rfl, ?_⟩
    have := rr H1 (Same.refl H1)
    have e3 : decide (V.int y.cnt = V.int r.cnt) = decide (y.cnt = r.cnt) := by
      by_cases z : y.cnt = r.cnt
      · rw [z]
        simp
      · rw [decide_eq_false z, decide_eq_false]
        intro w
        exact z (V.int.inj w)
    rw [e3]
    exact this
  · intro p H1 hp s1 hv
    have kA := keep2_all (fun o : Rq => !decide (o.cnt = r.cnt)) h.rs
    have ksub := keep2_sub (fun o : Rq => !decide (o.cnt = r.cnt)) L.rs s.row
    generalize hrs : keep2 (fun o : Rq => !decide (o.cnt = r.cnt)) L.rs s.row = rs at *
    generalize hrow : s.row.filter (fun o : Rq => !decide (o.cnt = r.cnt)) = row at *
    have han : a ∉ rs := fun z => by
      obtain ⟨x, hx, hp2, rx⟩ := keep2_all2 h.rs (hrs ▸ z)
      have := reqAt_inj ra rx
      subst this
      simp at hp2
    have nrs : rs.Nodup := ksub.nodup nd.2.2
    have ho1 := s1 _ _ ho
    have npq : p ≠ L.q := (ne_of_none ho hp).symm
    refine ⟨_, rfl, L.q, _, dx, _, rfl, ho1, pf.cl_Queue, pf.na_Queue_row, of_decide_eq_true rfl, ?_⟩
    have hob : upd H1 L.q (.ins (He.ga K "Queue") dx (putF "row" (.ref p) (queF (.int s.pat) (.ref L.lr) (.int s.put) (.int s.arm)))) L.q = some (.ins (He.ga K "Queue") dx (queF (.int s.pat) (.ref p) (.int s.put) (.int s.arm))) := upd_same
    have hv2 := (upd_ne (o := .ins (He.ga K "Queue") dx (putF "row" (.ref p) (queF (.int s.pat) (.ref L.lr) (.int s.put) (.int s.arm)))) npq).trans hv
    refine ⟨_, rfl, _, _, _, _, _, rfl, hob, pf.cl_Queue, pf.na_Queue_row, rfl, _, rfl, ⟨_, SqL.of hv2⟩, ?_⟩
    have hrsf : ∀ b, b ∈ rs → b ∈ L.foot := fun b hb => by
      unfold QL.foot
      simp [ksub.subset hb]
    have hqf : L.q ∈ L.foot := by
      unfold QL.foot
      simp
    have hqrs : L.q ∉ rs := fun z => nd.1.2 (ksub.subset z)
    have hprs : p ∉ rs := fun z => h.has (hrsf p z) hp
    have len2 := kA.len
    refine for_list (xs := rs.map V.ref) (fun n σ H2 => Step L.foot L.foot H H2 ∧ H2 p = some (.lst (rs.map V.ref)) ∧ H2 L.q = some (.ins (He.ga K "Queue") dx (queF (.int s.pat) (.ref p) (.int s.put) (.int s.arm))) ∧ ReqAt K H2 a r ∧ All2 (ReqAt K H2) rs ((row.take n).map Rq.inc ++ row.drop n) ∧ ∃ v2, σ = [some (.ref L.q), some (.ref a), v2])
      ⟨((Step.refl L.foot H).seq s1).upd (.inr ⟨hqf, fun xs => nt_ins ho1⟩), hv2, hob, ?_, ?_, _, rfl⟩ (fun n σ H2 _ h2 => SqL.of h2.2.1) ?_ ?_
    · obtain ⟨dz, e⟩ := ra
      refine ⟨dz, (upd_ne ?_).trans (s1 _ _ e)⟩
      exact ne_ins_ins pf.ne_Request_Queue.symm ho e
    · rw [List.take_zero, List.drop_zero]
      refine All2.imp kA ?_
      rintro b y hb _ ⟨dz, e⟩
      exact ⟨dz, (upd_ne (ne_ins_ins pf.ne_Request_Queue.symm ho e)).trans (s1 _ _ e)⟩
    · rintro n x σ H2 hx ⟨k2, hp2, hq2, ra2, hA2, v2, rfl⟩
      rw [List.getElem?_map] at hx
      obtain ⟨b, hb, rfl⟩ := Option.map_eq_some_iff.mp hx
      obtain ⟨y, hy, dy, e⟩ := hA2.get hb
      have hbm := List.mem_of_getElem? hb
      have hy2 : row[n]? = some y := by
        obtain ⟨z, hz⟩ : ∃ z, row[n]? = some z := ⟨row[n]'(by have := (List.getElem?_eq_some_iff.mp hb).1; omega), List.getElem?_eq_getElem _⟩
        rw [map_at hz] at hy
        cases hy
        exact hz
      refine ⟨_, rfl, b, _, dy, _, _, rfl, e, pf.cl_Request, pf.na_Request_seen, rfl, _, _, rfl, rfl, dy, _, e, of_decide_eq_true rfl, ?_⟩
      have kd : ∀ c o, H2 c = some o → c ≠ b → (upd H2 b (.ins (He.ga K "Request") dy (putF "seen" (.int (y.seen + 1)) (reqF (.int y.cnt) (roomV y.w) (numV y.w) (.int y.seen))))) c = some o := fun c o e n => by
        rw [upd_ne n]
        exact e
      refine ⟨k2.upd (.inr ⟨hrsf b hbm, fun xs => nt_ins e⟩), kd _ _ hp2 (fun z => hprs (z ▸ hbm)), kd _ _ hq2 (fun z => hqrs (z ▸ hbm)), ra2.imp fun dz e => kd _ _ e (fun z => han (z ▸ hbm)), ?_, _, rfl⟩
      have := map_step (f := Rq.inc) hy2
      rw [← this]
      refine All2.upd_at hA2 nrs hb ⟨dy, upd_same⟩ ?_
      rintro x z hx n ⟨dw, e2⟩
      exact ⟨dw, kd _ _ e2 n⟩
    · rintro σ H2 ⟨k2, hp2, hq2, ra2, hA2, v2, rfl⟩
      rw [List.length_map, len2, List.take_length, List.drop_length, List.append_nil] at hA2
      have fin : Step L.foot ({ L with lr := p, rs := rs } : QL).foot H H2 := k2.sub fun b hb => by
        unfold QL.foot at hb ⊢
        simp only [List.mem_cons] at hb ⊢
        rcases hb with hb | hb | hb
        · exact .inl (.inl hb)
        · exact .inr (hb ▸ hp)
        · exact .inl (.inr (.inr (ksub.subset hb)))
      have ndn : (L.q :: p :: rs).Nodup := by
        simp only [List.nodup_cons, List.mem_cons, not_or]
        exact ⟨⟨npq.symm, hqrs⟩, hprs, nrs⟩
      obtain ⟨dz, e⟩ := ra2
      refine ⟨_, rfl, a, dz, _, rfl, e, rfl, a, r, rfl, ⟨dz, e⟩, _, rfl, ?_⟩
      obtain ⟨rc, rw_, rsn⟩ := r
      cases rw_ with
      | none =>
        refine iteF (q { L with lr := p, rs := rs } H2 ⟨⟨dx, hq2⟩, hp2, ?_, ndn⟩ rfl fin ⟨dz, e⟩)
        show All2 _ rs _
        unfold Que.served
        dsimp only
        rw [hrow]
        exact hA2
      | some pr =>
        refine iteT ⟨_, rfl, _, _, _, _, _, rfl, e, pf.cl_Request, pf.na_Request_spot, rfl, _, rfl, L.q, _, dx, _, rfl, hq2, pf.cl_Queue, pf.na_Queue_spot, of_decide_eq_true rfl, ?_⟩
        have kd : ∀ c o, H2 c = some o → c ≠ L.q → (upd H2 L.q (.ins (He.ga K "Queue") dx (putF "spot" (.int pr.1) (queF (.int s.pat) (.ref p) (.int s.put) (.int s.arm))))) c = some o := fun c o e n => by
          rw [upd_ne n]
          exact e
        refine q { L with lr := p, rs := rs } _ ⟨⟨dx, upd_same⟩, kd _ _ hp2 npq, ?_, ndn⟩ rfl (fin.upd (.inr ⟨hqf, fun xs => nt_ins hq2⟩)) ⟨dz, kd _ _ e (ne_ins_ins pf.ne_Request_Queue.symm hq2 e)⟩
        show All2 _ rs _
        unfold Que.served
        dsimp only
        rw [hrow]
        refine All2.imp hA2 ?_
        rintro b y hb _ ⟨dw, e2⟩
        exact ⟨dw, kd _ _ e2 (fun z => hqrs (z ▸ hb))⟩
end SY

/-! ## Prog, part F: frames, stores -/
namespace SY
open PySem PySem.Spec PyProof.Rows L2 XB
def Sto.new (mf md pat : Int) (d : Dsk) : Sto := ⟨mf, md, [], Que.new pat, d⟩
def Fra.wash (f : Fra) : Fra := { f with dirty := false }
def Sto.clean (s : Sto) (i : Nat) : Sto := match s.frs[i]? with
  | none => s
  | some f => { s with q := s.q.put1 (some (f.room, f.num)), frs := s.frs.set i f.wash }
def Sto.others (s : Sto) (room : Int) : List Fra := s.frs.filter fun f => !decide (f.room = room)
def Sto.own (s : Sto) (room : Int) : List Fra := s.frs.filter fun f => decide (f.room = room)
def Sto.leave (s : Sto) : Sto := match s.frs.filter fun f => !f.dirty with
  | c :: _ => { s with frs := s.others c.room }
  | [] => match s.frs with
    | [] => s
    | f :: _ => { s.clean 0 with frs := (s.clean 0).others f.room }
def Sto.mid (s : Sto) (room : Int) : Sto := if (s.own room).isEmpty = true then (if decide ((s.frs.length : Int) = s.mf) = true then s.leave else s) else s
def Sto.look (s : Sto) (room : Int) : Int := match (s.q.mine room).getLast? with
  | none => (s.d.shown[room.toNat]?).getD 0
  | some r => (r.w.getD (0, 0)).2
def Sto.found (s : Sto) (room : Int) : List Fra := if (s.own room).isEmpty = true then [⟨room, (s.mid room).look room, false⟩] else s.own room
def Sto.use (s : Sto) (room : Int) : Sto := { s.mid room with frs := (s.mid room).others room ++ s.found room }
def Sto.useIx (s : Sto) (room : Int) : Nat := ((s.mid room).others room).length
structure Sto.Ok (s : Sto) (B : Nat) : Prop where
  size : 1 ≤ s.d.sure.length ∧ s.d.sure.length ≤ 40
  left : s.d.left = none
  drooms : ∀ lot ∈ s.d.lots, ∀ p ∈ lot, 0 ≤ p.1 ∧ p.1 < s.d.sure.length
  ne : s.d.lots ≠ []
  fr : ∀ f ∈ s.frs, 0 ≤ f.room ∧ f.room < s.d.sure.length
  rq : ∀ r ∈ s.q.row, ∀ p, r.w = some p → 0 ≤ p.1 ∧ p.1 < s.d.sure.length
  inc : s.q.row.Pairwise fun a b => a.cnt < b.cnt
  ctr : ∀ r ∈ s.q.row, r.cnt < s.q.put
  mf : 1 ≤ s.mf ∧ s.mf ≤ 8
  md : 1 ≤ s.md ∧ s.md ≤ s.mf
  nf : (s.frs.length : Int) ≤ s.mf
  wear : s.q.row.length + s.d.lots.flatten.length + s.d.lots.length ≤ B
theorem Sto.Ok.dk {s : Sto} {B : Nat} (h : s.Ok B) (hB : B ≤ 900000) : s.d.Ok := ⟨h.drooms, h.ne, by have := h.wear; omega, by have := h.wear; omega, h.size⟩
theorem Sto.Ok.row {s : Sto} {B : Nat} (h : s.Ok B) (hB : B ≤ 1000000) : s.q.row.length ≤ 1000000 := by
  have := h.wear
  omega
theorem Sto.Ok.mono {s : Sto} {B C : Nat} (h : s.Ok B) (hB : B ≤ C) : s.Ok C := { h with wear := Nat.le_trans h.wear hB }
theorem Dsk.look_at {s : Dsk} {room : Int} (h0 : 0 ≤ room) (h1 : room < s.sure.length) : s.shown[room.toNat]? = some ((s.shown[room.toNat]?).getD 0) := by
  have : room.toNat < s.shown.length := by
    rw [s.shown_len]
    omega
  rw [List.getElem?_eq_getElem this]
  rfl
section
variable {K : PySem.W.Frag} {H H' H1 : Hp} {A A' : List Addr}
theorem fraAt_inj {a : Addr} {r r' : Fra} (h : FraAt K H a r) (h' : FraAt K H a r') : r = r' := by
  obtain ⟨dx, e⟩ := h
  obtain ⟨dy, e'⟩ := h'
  rw [e] at e'
  obtain ⟨c, w, s⟩ := r
  obtain ⟨c', w', s'⟩ := r'
  have e2 := Option.some.inj e'
  injection e2 with _ _ e3
  unfold fraF at e3
  simp only [List.cons.injEq, Prod.mk.injEq, V.int.injEq, V.bl.injEq, true_and, and_true] at e3
  obtain ⟨rfl, rfl, rfl⟩ := e3
  rfl
theorem FraAt.same {a : Addr} {r : Fra} (h : FraAt K H a r) (s : Same H H') : FraAt K H' a r := h.imp fun dx e => s _ _ e
theorem own_nd {L : SL} {s : Sto} (h : StoAt K H L s) : (L.st :: L.lf :: L.fs).Nodup := by
  have := h.nd
  rw [List.nodup_append] at this
  have := this.2.1
  rw [List.nodup_append] at this
  exact this.2.1
theorem fs_foot {L : SL} {b : Addr} (h : b ∈ L.fs) : b ∈ L.foot := by
  unfold SL.foot
  simp [h]
theorem st_foot {L : SL} : L.st ∈ L.foot := by
  unfold SL.foot
  simp
/-- one frame anew -/
theorem StoAt.setFrame (pf : PF K) {L : SL} {s : Sto} {i : Nat} {a dx : Addr} {f f' : Fra} (h : StoAt K H L s) (hi : L.fs[i]? = some a) (hf : s.frs[i]? = some f) :
    StoAt K (upd H a (.ins (He.ga K "Frame") dx (fraF (.int f'.room) (.int f'.num) (.bl f'.dirty)))) L { s with frs := s.frs.set i f' } ∧ Step L.foot L.foot H (upd H a (.ins (He.ga K "Frame") dx (fraF (.int f'.room) (.int f'.num) (.bl f'.dirty)))) := by
  have nd := own_nd h
  simp only [List.nodup_cons, List.mem_cons, not_or] at nd
  have ha := List.mem_of_getElem? hi
  obtain ⟨f0, hf0, dy, e⟩ := h.fs.get hi
  have kd : ∀ c o, H c = some o → c ≠ a → (upd H a (.ins (He.ga K "Frame") dx (fraF (.int f'.room) (.int f'.num) (.bl f'.dirty)))) c = some o := fun c o e n => by
    rw [upd_ne n]
    exact e
  have k : Step (L.st :: L.lf :: L.fs) (L.st :: L.lf :: L.fs) H (upd H a (.ins (He.ga K "Frame") dx (fraF (.int f'.room) (.int f'.num) (.bl f'.dirty)))) := (Step.refl _ H).upd (.inr ⟨by simp [ha], fun xs => nt_ins e⟩)
  exact h.withOwn k (h.ob.imp fun dx e => kd _ _ e fun z => nd.1.2 (z ▸ ha)) (kd _ _ h.lf fun z => nd.2.1 (z ▸ ha)) (h.fs.upd_at nd.2.2 hi ⟨dx, upd_same⟩ fun x y hx n e => e.imp fun dw e => kd _ _ e n) (own_nd h)
/-- the frames anew -/
theorem StoAt.setFrames (pf : PF K) {L : SL} {s : Sto} {p dx : Addr} {fs' : List Addr} {frs' : List Fra} (h : StoAt K H L s) (s1 : Same H H1) (ho : H L.st = some (.ins (He.ga K "Store") dx (stoF (.ref L.d.d) (.int s.mf) (.int s.md) (.ref L.lf) (.ref L.q.q))))
    (hp : H p = none) (hv : H1 p = some (.lst (fs'.map V.ref))) (hf : All2 (FraAt K H1) fs' frs') (nd' : fs'.Nodup) (sub : ∀ b, b ∈ fs' → b ∈ L.fs ∨ H b = none) :
    StoAt K (upd H1 L.st (.ins (He.ga K "Store") dx (stoF (.ref L.d.d) (.int s.mf) (.int s.md) (.ref p) (.ref L.q.q)))) { L with lf := p, fs := fs' } { s with frs := frs' } ∧
      Step L.foot ({ L with lf := p, fs := fs' } : SL).foot H (upd H1 L.st (.ins (He.ga K "Store") dx (stoF (.ref L.d.d) (.int s.mf) (.int s.md) (.ref p) (.ref L.q.q)))) := by
  have ho1 := s1 _ _ ho
  have nps : p ≠ L.st := (ne_of_none ho hp).symm
  have kd : ∀ c o, H1 c = some o → c ≠ L.st → (upd H1 L.st (.ins (He.ga K "Store") dx (stoF (.ref L.d.d) (.int s.mf) (.int s.md) (.ref p) (.ref L.q.q)))) c = some o := fun c o e n => by
    rw [upd_ne n]
    exact e
  have nfs : ∀ b, b ∈ fs' → b ≠ L.st ∧ b ≠ p := fun b hb => by
    obtain ⟨f, _, dy, e⟩ := hf.mem hb
    exact ⟨ne_ins_ins pf.ne_Frame_Store.symm ho1 e, ne_lst_ins hv e⟩
  have k : Step (L.st :: L.lf :: L.fs) (L.st :: p :: fs') H (upd H1 L.st (.ins (He.ga K "Store") dx (stoF (.ref L.d.d) (.int s.mf) (.int s.md) (.ref p) (.ref L.q.q)))) := by
    refine (((Step.refl _ H).seq s1).upd (.inr ⟨by simp, fun xs => nt_ins ho1⟩)).sub fun b hb => ?_
    simp only [List.mem_cons] at hb ⊢
    rcases hb with hb | hb | hb
    · exact .inl (.inl hb)
    · exact .inr (hb ▸ hp)
    · exact (sub b hb).imp (fun z => .inr (.inr z)) id
  refine h.withOwn k ⟨dx, upd_same⟩ (kd _ _ hv nps) (hf.imp fun a f ha _ e => e.imp fun dy e => kd _ _ e (nfs a ha).1) ?_
  simp only [List.nodup_cons, List.mem_cons, not_or]
  exact ⟨⟨nps.symm, fun z => (nfs _ z).1 rfl⟩, fun z => (nfs _ z).2 rfl, nd'⟩
end
def sp_Frame_init (K : PySem.W.Frag) : Sp := fun vs H Q _ => ∃ x dx room num, vs = [.ref x, .int room, .int num] ∧ H x = some (.ins (He.ga K "Frame") dx []) ∧ ∀ H', FraAt K H' x ⟨room, num, false⟩ → Step [x] [x] H H' → Q .non H'
def t_Frame_init (K : PySem.W.Frag) : TS := (tSeq (sFld K (tVar 0) (tVar 1) "spot")
    (tSeq (sFld K (tVar 0) (tVar 2) "number")
    (sFld K (tVar 0) (tC (.bl false)) "dirty")))
theorem len_Frame_init {K : PySem.W.Frag} (vs : List V) (H : Hp) (Q : VK) (E : XK) (h : sp_Frame_init K vs H Q E) : vs.length = (["self", "room", "number"] : List Str).length := by
  unfold sp_Frame_init at h
  repeat (first | (obtain ⟨e, _⟩ := h; rw [e]; done) | (obtain ⟨e, _⟩ := h; rw [e]; rfl; done) | obtain ⟨_, h⟩ := h)
theorem pure_Frame_init {K : PySem.W.Frag} (pf : PF K) {vs : List V} {H : Hp} {Q : VK} {E : XK} (h : sp_Frame_init K vs H Q E) : t_Frame_init K { nx := fun _ H' => Q .non H', rt := Q } (start ["self", "room", "number"] vs) H := by
  obtain ⟨x, dx, room, num, rfl, hx, q⟩ := h
  refine ⟨_, rfl, _, rfl, x, _, dx, [], rfl, hx, pf.cl_Frame, pf.na_Frame_spot, of_decide_eq_true rfl, ?_⟩
  refine ⟨_, rfl, _, rfl, x, _, dx, _, rfl, upd_same, pf.cl_Frame, pf.na_Frame_number, of_decide_eq_true rfl, ?_⟩
  refine ⟨_, rfl, x, _, dx, _, rfl, upd_same, pf.cl_Frame, pf.na_Frame_dirty, of_decide_eq_true rfl, ?_⟩
  refine q _ ⟨dx, upd_same⟩ ?_
  simp only [upd_upd]
  exact (Step.refl [x] H).upd (.inr ⟨by simp, fun xs => nt_ins hx⟩)
def sp_Store_init (K : PySem.W.Frag) : Sp := fun vs H Q _ => ∃ x dx D d mf md pat, vs = [.ref x, .ref D.d, .int mf, .int md, .int pat] ∧ H x = some (.ins (He.ga K "Store") dx []) ∧ DiskAt K H D d ∧ (1 ≤ mf ∧ mf ≤ 8) ∧ (1 ≤ md ∧ md ≤ mf) ∧ (0 ≤ pat ∧ pat ≤ 40) ∧
  ∀ L H', StoAt K H' L (Sto.new mf md pat d) → L.st = x → L.d = D → Step (x :: D.foot) L.foot H H' → Step [x] (x :: L.lf :: L.q.foot) H H' → Q .non H'
def t_Store_init (K : PySem.W.Frag) : TS := (tSeq (tIfS (tOr (tNot (tB (tCB (rIsi K) (tCons (tVar 1) (tCons (tC (.ref (He.ga K "Disk"))) tNil))))) (tOr (tNot (tB (tCall (sp_within K) [] E0 (tCons (tVar 2) (tCons (tC (.int 1)) (tCons (tC (.int 8)) tNil)))))) (tNot (tB (tCall (sp_within K) [] E0 (tCons (tVar 3) (tCons (tC (.int 1)) (tCons (tVar 2) tNil)))))))) tNever tNext)
    (tSeq (tIfS (tNot (tB (tCall (sp_within K) [] E0 (tCons (tVar 4) (tCons (tC (.int 0)) (tCons (tC (.int 40)) tNil)))))) tNever tNext)
    (tSeq (sFld K (tVar 0) (tVar 1) "disk")
    (tSeq (sFld K (tVar 0) (tVar 2) "most_frames")
    (tSeq (sFld K (tVar 0) (tVar 3) "most_dirty")
    (tSeq (sFld K (tVar 0) (tLst tNil) "frames")
    (sFld K (tVar 0) (tMake (He.ga K "Queue") (sp_Queue_init K) [] E0 (tCons (tVar 4) tNil)) "waiting")))))))
theorem len_Store_init {K : PySem.W.Frag} (vs : List V) (H : Hp) (Q : VK) (E : XK) (h : sp_Store_init K vs H Q E) : vs.length = (["self", "disk", "frames", "dirty", "patience"] : List Str).length := by
  unfold sp_Store_init at h
  repeat (first | (obtain ⟨e, _⟩ := h; rw [e]; done) | (obtain ⟨e, _⟩ := h; rw [e]; rfl; done) | obtain ⟨_, h⟩ := h)
theorem pure_Store_init {K : PySem.W.Frag} (pf : PF K) {vs : List V} {H : Hp} {Q : VK} {E : XK} (h : sp_Store_init K vs H Q E) : t_Store_init K { nx := fun _ H' => Q .non H', rt := Q } (start ["self", "disk", "frames", "dirty", "patience"] vs) H := by
  obtain ⟨x, dx, D, d, mf, md, pat, rfl, hx, hd, ⟨f1, f2⟩, ⟨m1, m2⟩, ⟨p1, p2⟩, q⟩ := h
  obtain ⟨dd, hob⟩ := hd.ob
  refine ⟨_, rfl, _, _, _, _, true, rfl, .own _, .base (.ins hob pf.io_Disk.cl pf.io_Disk.ha pf.io_Disk.hn pf.io_Disk.htk pf.io_Disk.hm), pf.ki_Disk, _, rfl, iteF ?_⟩
  refine ⟨_, rfl, mf, 1, 8, rfl, _, rfl, within_no f1 f2 ?_⟩
  refine ⟨_, rfl, _, rfl, md, 1, mf, rfl, _, rfl, within_no m1 m2 ?_⟩
  refine ⟨_, rfl, pat, 0, 40, rfl, _, rfl, within_no p1 p2 ?_⟩
  refine ⟨_, rfl, _, rfl, x, _, dx, [], rfl, hx, pf.cl_Store, pf.na_Store_disk, of_decide_eq_true rfl, ?_⟩
  refine ⟨_, rfl, _, rfl, x, _, dx, _, rfl, upd_same, pf.cl_Store, pf.na_Store_most_frames, of_decide_eq_true rfl, ?_⟩
  refine ⟨_, rfl, _, rfl, x, _, dx, _, rfl, upd_same, pf.cl_Store, pf.na_Store_most_dirty, of_decide_eq_true rfl, ?_⟩
  simp only [upd_upd]
  refine ⟨of_decide_eq_true rfl, fun p hp => ?_⟩
  have npx : p ≠ x := (ne_of_none upd_same hp).symm
  refine ⟨_, rfl, x, _, dx, _, rfl, (upd_ne npx.symm).trans upd_same, pf.cl_Store, pf.na_Store_frames, of_decide_eq_true rfl, ?_⟩
  refine ⟨_, rfl, fun y dy hy hdy hyd => ?_⟩
  have k0 := Step.made (C := He.ga K "Queue") hy hdy
  refine ⟨y, dy, pat, rfl, upd_same, fun L H1 hq hLq k1 => ⟨rfl, ?_⟩⟩
  have k2 := k0.trans k1
  have kk := fun c o e => k2.kp c o e (by simp)
  have hxx := kk x _ upd_same
  refine ⟨_, rfl, x, _, dx, _, rfl, hxx, pf.cl_Store, pf.na_Store_waiting, of_decide_eq_true rfl, ?_⟩
  have hxH : ∀ b, H b ≠ none → b ≠ x → b ≠ p → H1 b = H b := fun b hb nb np => by
    cases e : H b with
    | none => exact absurd e hb
    | some o => exact kk b o (by rw [upd_ne nb, upd_ne np, upd_ne nb]; exact e)
  rw [upd_ne npx] at hp
  have nD : ∀ b, b ∈ D.foot → b ≠ x := fun b hb z => by
    unfold DL.foot at hb
    simp only [List.mem_cons] at hb
    rcases hb with hb | hb | hb | hb
    · exact ne_ins_ins pf.ne_Disk_Store.symm hx (hb ▸ hob : H b = _) z
    · exact ne_ins_lst hx (hb ▸ hd.ls : H b = _) z
    · exact ne_ins_lst hx (hb ▸ hd.lo : H b = _) z
    · obtain ⟨lot, _, ts, e, _⟩ := hd.lots.mem hb
      exact ne_ins_lst hx e z
  have kx : Step [x] [x] H (upd (upd (upd H x (.ins (He.ga K "Store") dx (putF "most_dirty" (.int md) (putF "most_frames" (.int mf) (putF "disk" (.ref D.d) []))))) p (.lst [])) x (.ins (He.ga K "Store") dx (putF "frames" (.ref p) (putF "most_dirty" (.int md) (putF "most_frames" (.int mf) (putF "disk" (.ref D.d) [])))))) := by
    have a1 := (Step.refl [x] H).upd (a := x) (o := .ins (He.ga K "Store") dx (putF "most_dirty" (.int md) (putF "most_frames" (.int mf) (putF "disk" (.ref D.d) [])))) (.inr ⟨by simp, fun xs => nt_ins hx⟩)
    have a2 := a1.seq (same_upd (p := p) (o := .lst []) (by rw [upd_ne npx]; exact hp))
    exact a2.upd (.inr ⟨by simp, fun xs => by rw [upd_ne npx.symm, upd_same]; intro z; cases z⟩)
  have fr : ∀ b, upd (upd (upd H x (.ins (He.ga K "Store") dx (putF "most_dirty" (.int md) (putF "most_frames" (.int mf) (putF "disk" (.ref D.d) []))))) p (.lst [])) x (.ins (He.ga K "Store") dx (putF "frames" (.ref p) (putF "most_dirty" (.int md) (putF "most_frames" (.int mf) (putF "disk" (.ref D.d) []))))) b = none → b ≠ x ∧ b ≠ p ∧ H b = none := fun b hb => by
    have n1 : b ≠ x := fun z => by
      rw [z, upd_same] at hb
      cases hb
    rw [upd_ne n1] at hb
    have n2 : b ≠ p := fun z => by
      rw [z, upd_same] at hb
      cases hb
    rw [upd_ne n2, upd_ne n1] at hb
    exact ⟨n1, n2, hb⟩
  have hLf : ∀ b, b ∈ L.foot → b ≠ x ∧ b ≠ p ∧ H b = none := fun b hb => by
    rcases k2.nw b hb with z | z
    · simp at z
    · exact fr b z
  have kall : Step [x] (x :: p :: L.foot) H (upd H1 x (.ins (He.ga K "Store") dx (putF "waiting" (.ref y) (putF "frames" (.ref p) (putF "most_dirty" (.int md) (putF "most_frames" (.int mf) (putF "disk" (.ref D.d) []))))))) := by
    have a3 := (kx.trans (k2.frame (B := [x]) (B' := [x]) (fun b z => by simp at z) (fun b z => .inr z))).upd (a := x) (o := .ins (He.ga K "Store") dx (putF "waiting" (.ref y) (putF "frames" (.ref p) (putF "most_dirty" (.int md) (putF "most_frames" (.int mf) (putF "disk" (.ref D.d) [])))))) (.inr ⟨by simp, fun xs => nt_ins hxx⟩)
    refine a3.sub fun b hb => ?_
    simp only [List.mem_cons, List.not_mem_nil, or_false] at hb ⊢
    rcases hb with hb | hb | hb
    · exact .inl hb
    · exact .inr (hb ▸ hp)
    · exact .inr (hLf b hb).2.2
  have hp1 : H1 p = some (.lst []) := kk p _ (by rw [upd_ne npx, upd_same])
  refine q ⟨x, p, [], L, D⟩ _ ⟨⟨dx, ?_⟩, ?_, .nil, ?_, ?_, ?_⟩ rfl rfl (kall.frame (fun b hb => by simp only [List.mem_singleton] at hb; simp [hb]) fun b hb => ?_) (kall.sub fun b hb => .inl hb)
  · show upd _ x _ x = _
    rw [upd_same, hLq]
    rfl
  · show upd _ x _ p = _
    rw [upd_ne npx]
    exact hp1
  · refine hq.step (A := [x]) (A' := [x]) ((Step.refl [x] H1).upd (.inr ⟨by simp, fun xs => nt_ins hxx⟩)) fun b hb => ?_
    rw [List.mem_singleton]
    exact (hLf b hb).1
  · refine hd.step kall fun b hb => ?_
    rw [List.mem_singleton]
    exact nD b hb
  · have h1 : (D.foot ++ (L.foot ++ [x, p])).Nodup := by
      rw [List.nodup_append]
      refine ⟨hd.nd, ?_, fun b hb c hc => ?_⟩
      · rw [List.nodup_append]
        refine ⟨hq.nd, by simp [npx.symm], fun b hb c hc => ?_⟩
        simp only [List.mem_cons, List.not_mem_nil, or_false] at hc
        rcases hc with rfl | rfl
        · exact (hLf b hb).1
        · exact (hLf b hb).2.1
      · simp only [List.mem_append, List.mem_cons, List.not_mem_nil, or_false] at hc
        rcases hc with hc | hc | hc
        · intro z
          exact hd.has hb (z ▸ (hLf c hc).2.2)
        · exact hc ▸ nD b hb
        · intro z
          exact hd.has hb (z ▸ hc ▸ hp)
    exact h1
  · unfold SL.foot at hb
    simp only [List.mem_append, List.mem_cons, List.not_mem_nil, or_false] at hb ⊢
    rcases hb with hb | hb | hb | hb
    · exact .inr (.inr hb)
    · exact .inl (.inr (.inr hb))
    · exact .inl (.inl hb)
    · exact .inl (.inr (.inl hb))
end SY

/-! ## Prog, part G: frames' use -/
namespace SY
open PySem PySem.Spec PyProof.Rows L2 XB
def sp_Store_check_room (K : PySem.W.Frag) : Sp := fun vs H Q _ => ∃ L s room, vs = [.ref L.st, .int room] ∧ StoAt K H L s ∧ 0 ≤ room ∧ room < s.d.sure.length ∧ Q .non H
def t_Store_check_room (K : PySem.W.Frag) : TS := (tIfS (tNot (tB (tCall (sp_within K) [] E0 (tCons (tVar 1) (tCons (tC (.int 0)) (tCons (tOp xSub (tMeth (He.ga K "Disk") "rooms" (sp_Disk_rooms K) [] E0 (tFld K (tVar 0) "disk") tNil) (tC (.int 1))) tNil)))))) tNever tNext)
theorem len_Store_check_room {K : PySem.W.Frag} (vs : List V) (H : Hp) (Q : VK) (E : XK) (h : sp_Store_check_room K vs H Q E) : vs.length = (["self", "room"] : List Str).length := by
  unfold sp_Store_check_room at h
  repeat (first | (obtain ⟨e, _⟩ := h; rw [e]; done) | (obtain ⟨e, _⟩ := h; rw [e]; rfl; done) | obtain ⟨_, h⟩ := h)
theorem pure_Store_check_room {K : PySem.W.Frag} (pf : PF K) {vs : List V} {H : Hp} {Q : VK} {E : XK} (h : sp_Store_check_room K vs H Q E) : t_Store_check_room K { nx := fun _ H' => Q .non H', rt := Q } (start ["self", "room"] vs) H := by
  obtain ⟨L, s, room, rfl, h, h0, h1, q⟩ := h
  obtain ⟨dx, ho⟩ := h.ob
  obtain ⟨dd, hod⟩ := h.d.ob
  refine ⟨_, rfl, _, rfl, _, _, _, _, _, rfl, ho, pf.cl_Store, pf.na_Store_disk, rfl, L.d.d, dd, _, rfl, hod, rfl, L.d, s.d, rfl, h.d, _, _, rfl, rfl, room, 0, _, rfl, _, rfl, within_no h0 (by omega) q⟩
def sp_Store_clean (K : PySem.W.Frag) : Sp := fun vs H Q _ => ∃ L s i a f, vs = [.ref L.st, .ref a] ∧ StoAt K H L s ∧ s.q.row.length ≤ 1000000 ∧ L.fs[i]? = some a ∧ s.frs[i]? = some f ∧ ∀ L' H', StoAt K H' L' (s.clean i) → L'.st = L.st → L'.d = L.d → L'.lf = L.lf → L'.fs = L.fs → L'.q.q = L.q.q → Step L.foot L'.foot H H' → Q .non H'
def t_Store_clean (K : PySem.W.Frag) : TS := (tSeq (tDrop (tMeth (He.ga K "Queue") "put" (sp_Queue_put K) [] E0 (tFld K (tVar 0) "waiting") (tCons (tFld K (tVar 1) "spot") (tCons (tFld K (tVar 1) "number") tNil))))
    (sFld K (tVar 1) (tC (.bl false)) "dirty"))
theorem len_Store_clean {K : PySem.W.Frag} (vs : List V) (H : Hp) (Q : VK) (E : XK) (h : sp_Store_clean K vs H Q E) : vs.length = (["self", "frame"] : List Str).length := by
  unfold sp_Store_clean at h
  repeat (first | (obtain ⟨e, _⟩ := h; rw [e]; done) | (obtain ⟨e, _⟩ := h; rw [e]; rfl; done) | obtain ⟨_, h⟩ := h)
theorem pure_Store_clean {K : PySem.W.Frag} (pf : PF K) {vs : List V} {H : Hp} {Q : VK} {E : XK} (h : sp_Store_clean K vs H Q E) : t_Store_clean K { nx := fun _ H' => Q .non H', rt := Q } (start ["self", "frame"] vs) H := by
  obtain ⟨L, s, i, a, f, rfl, h, hz, hi, hf, q⟩ := h
  obtain ⟨dx, ho⟩ := h.ob
  obtain ⟨dq, hoq⟩ := h.q.ob
  obtain ⟨f', hf', dy, e⟩ := h.fs.get hi
  rw [hf] at hf'
  cases hf'
  refine ⟨_, rfl, _, _, _, _, _, rfl, ho, pf.cl_Store, pf.na_Store_waiting, rfl, L.q.q, dq, _, rfl, hoq, rfl, _, rfl, _, _, _, _, _, rfl, e, pf.cl_Frame, pf.na_Frame_spot, rfl, _, rfl, _, _, _, _, _, rfl, e, pf.cl_Frame, pf.na_Frame_number, rfl, L.q, s.q, some (f.room, f.num), rfl, h.q, hz, fun D H1 hD hDq k => ?_⟩
  obtain ⟨h1, k1⟩ := h.withQue k hD hDq
  obtain ⟨f', hf', dy, e⟩ := h1.fs.get (i := i) hi
  rw [show ({ s with q := s.q.put1 (some (f.room, f.num)) } : Sto).frs = s.frs from rfl, hf] at hf'
  cases hf'
  obtain ⟨h2, k2⟩ := h1.setFrame pf (dx := dy) (f' := f.wash) hi hf
  refine ⟨_, rfl, a, _, dy, _, rfl, e, pf.cl_Frame, pf.na_Frame_dirty, of_decide_eq_true rfl, ?_⟩
  refine q { L with q := D } _ ?_ rfl rfl rfl rfl hDq (k1.trans k2)
  unfold Sto.clean
  rw [hf]
  exact h2
theorem rooms_bl (x y : Int) : (!decide (V.int x = V.int y)) = !decide (x = y) := by
  by_cases z : x = y
  · rw [z]
    simp
  · rw [decide_eq_false z, decide_eq_false]
    intro w
    exact z (V.int.inj w)
theorem rooms_bl2 (x y : Int) : decide (V.int x = V.int y) = decide (x = y) := by
  have := rooms_bl x y
  simpa using this
theorem clean_room {s : Sto} {i : Nat} {f : Fra} (hf : s.frs[i]? = some f) : (s.clean i).frs = s.frs.set i f.wash := by
  unfold Sto.clean
  rw [hf]
def sp_Store_leave (K : PySem.W.Frag) : Sp := fun vs H Q _ => ∃ L s, vs = [.ref L.st] ∧ StoAt K H L s ∧ s.q.row.length ≤ 1000000 ∧ s.frs.length ≤ 1000 ∧ s.frs ≠ [] ∧ ∀ L' H', StoAt K H' L' s.leave → L'.st = L.st → L'.d = L.d → L'.q.q = L.q.q → Step L.foot L'.foot H H' → Q .non H'
def t_Store_leave (K : PySem.W.Frag) : TS := (tSeq (tAsg (tLc (iList K (tFld K (tVar 0) "frames")) (gName 2) (tNot (tB (tFld K (tVar 2) "dirty"))) (tVar 2) [2]) (gName 1))
    (tSeq (tIfS (tTest (tOp (rEqE K) (tVar 1) (tLst tNil))) (tSeq (tDrop (tMeth (He.ga K "Store") "clean" (sp_Store_clean K) [] E0 (tVar 0) (tCons (tOp (rIxL K) (tFld K (tVar 0) "frames") (tC (.int 0))) tNil)))
    (tAsg (tFld K (tVar 0) "frames") (gName 1))) tNext)
    (sFld K (tVar 0) (tLc (iList K (tFld K (tVar 0) "frames")) (gName 2) (tTest (tOp rNe (tFld K (tVar 2) "spot") (tFld K (tOp (rIxL K) (tVar 1) (tC (.int 0))) "spot"))) (tVar 2) [2]) "frames")))
theorem len_Store_leave {K : PySem.W.Frag} (vs : List V) (H : Hp) (Q : VK) (E : XK) (h : sp_Store_leave K vs H Q E) : vs.length = (["self"] : List Str).length := by
  unfold sp_Store_leave at h
  repeat (first | (obtain ⟨e, _⟩ := h; rw [e]; done) | (obtain ⟨e, _⟩ := h; rw [e]; rfl; done) | obtain ⟨_, h⟩ := h)
theorem pure_Store_leave {K : PySem.W.Frag} (pf : PF K) {vs : List V} {H : Hp} {Q : VK} {E : XK} (h : sp_Store_leave K vs H Q E) : t_Store_leave K { nx := fun _ H' => Q .non H', rt := Q } (start ["self", "clean", "frame"] vs) H := by
  obtain ⟨L, s, rfl, h, hz, hn, hne, q⟩ := h
  obtain ⟨dx, ho⟩ := h.ob
  have len := h.fs.len
  have ndo := own_nd h
  simp only [List.nodup_cons, List.mem_cons, not_or] at ndo
  refine ⟨_, rfl, _, _, _, _, _, rfl, ho, pf.cl_Store, pf.na_Store_frames, rfl, _, rfl, ⟨_, SqL.of h.lf⟩, ?_⟩
  refine comp_keep (fun f : Fra => !f.dirty) h.fs (SqL.of h.lf) (by omega) ?_ ?_ ?_
  · exact of_decide_eq_true rfl
  · rintro b y hb ⟨dy, e⟩ H1 s1 R rr
    have e1 := s1 _ _ e
    exact ⟨_, rfl, _, _, _, _, _, rfl, e1, pf.cl_Frame, pf.na_Frame_dirty, rfl, _, rfl, rr H1 (Same.refl H1)⟩
  · intro p H1 hp s1 hv
    have kA := keep2_all (fun f : Fra => !f.dirty) h.fs
    have ksub := keep2_sub (fun f : Fra => !f.dirty) L.fs s.frs
    refine ⟨_, rfl, of_decide_eq_true rfl, fun c hc => ⟨p, c, _, rfl, rfl, SqL.of (same_upd hc _ _ hv), SqL.of upd_same, _, rfl, ?_⟩⟩
    have s2 := s1.trans (same_upd (o := .lst []) hc)
    have hv2 := same_upd (o := .lst []) hc _ _ hv
    have h2 := h.same s2
    cases hk : keep2 (fun f : Fra => !f.dirty) L.fs s.frs with
    | nil =>
      refine iteT ?_
      have hfil : s.frs.filter (fun f => !f.dirty) = [] := kA.nil_iff.mp hk
      obtain ⟨a, as, hfs⟩ : ∃ x xs, L.fs = x :: xs := by
        cases e : L.fs with
        | nil => exact absurd (h.fs.nil_iff.mp e) hne
        | cons x xs => exact ⟨x, xs, rfl⟩
      obtain ⟨f, fs, hfr⟩ : ∃ y ys, s.frs = y :: ys := by
        cases e : s.frs with
        | nil => exact absurd e hne
        | cons x xs => exact ⟨x, xs, rfl⟩
      have ha0 : L.fs[0]? = some a := by rw [hfs]; rfl
      have hf0 : s.frs[0]? = some f := by rw [hfr]; rfl
      have ho2 := s2 _ _ ho
      refine ⟨_, rfl, L.st, dx, _, rfl, ho2, rfl, _, rfl, _, _, _, _, _, rfl, ho2, pf.cl_Store, pf.na_Store_frames, rfl, L.lf, _, 0, .ref a, rfl, rfl, SqL.of h2.lf, ?_, ?_⟩
      · refine atI_of (j := 0) ?_
        rw [List.getElem?_map, ha0]
        rfl
      refine ⟨L, s, 0, a, f, rfl, h2, hz, ha0, hf0, fun L3 H3 h3 e1 e2 e3 e4 e5 k3 => ?_⟩
      obtain ⟨dx3, ho3⟩ := h3.ob
      rw [e1] at ho3
      refine ⟨_, rfl, _, _, _, _, _, rfl, ho3, pf.cl_Store, pf.na_Store_frames, rfl, ?_⟩
      refine ⟨_, rfl, _, _, _, _, _, rfl, ho3, pf.cl_Store, pf.na_Store_frames, rfl, _, rfl, ⟨_, SqL.of h3.lf⟩, ?_⟩
      have len3 := h3.fs.len
      have n3 : (s.clean 0).frs.length = s.frs.length := by
        rw [clean_room hf0, List.length_set]
      refine comp_keep (fun g : Fra => !decide (g.room = f.room)) h3.fs (SqL.of h3.lf) (by omega) ?_ ?_ ?_
      · exact of_decide_eq_true rfl
      · rintro b y hb ⟨dy, e⟩ H4 s4 R rr
        have e5 := s4 _ _ e
        have h4 := h3.same s4
        have hb0 : L3.fs[0]? = some a := by rw [e4]; exact ha0
        obtain ⟨g, hg, dg, eg⟩ := h4.fs.get hb0
        rw [clean_room hf0, List.getElem?_set_self (by rw [hfr]; simp)] at hg
        cases hg
        refine ⟨_, rfl, _, _, _, _, _, rfl, e5, pf.cl_Frame, pf.na_Frame_spot, rfl, _, rfl, L3.lf, _, 0, .ref a, rfl, rfl, SqL.of h4.lf, ?_, a, _, _, _, _, rfl, eg, pf.cl_Frame, pf.na_Frame_spot, rfl, rfl, _, rfl, ?_⟩
        · refine atI_of (j := 0) ?_
          rw [List.getElem?_map, hb0]
          rfl
        · rw [rooms_bl]
          exact rr H4 (Same.refl H4)
      · intro p4 H4 hp4 s4 hv4
        have kA4 := keep2_all (fun g : Fra => !decide (g.room = f.room)) h3.fs
        have ksub4 := keep2_sub (fun g : Fra => !decide (g.room = f.room)) L3.fs (s.clean 0).frs
        have ho3' : H3 L3.st = some (.ins (He.ga K "Store") dx3 (stoF (.ref L3.d.d) (.int (s.clean 0).mf) (.int (s.clean 0).md) (.ref L3.lf) (.ref L3.q.q))) := by
          rw [e1]
          exact ho3
        have nd3 := own_nd h3
        simp only [List.nodup_cons, List.mem_cons, not_or] at nd3
        obtain ⟨h5, k5⟩ := h3.setFrames pf s4 ho3' hp4 hv4 (kA4.imp fun a f _ _ r => r.same s4) (ksub4.nodup nd3.2.2) fun b hb => .inl (ksub4.subset hb)
        refine ⟨_, rfl, L3.st, _, dx3, _, by rw [e1], s4 _ _ ho3', pf.cl_Store, pf.na_Store_frames, of_decide_eq_true rfl, ?_⟩
        refine q { L3 with lf := p4, fs := keep2 (fun g : Fra => !decide (g.room = f.room)) L3.fs (s.clean 0).frs } _ ?_ e1 e2 e5 (((Step.same L.foot s2).trans k3).trans k5)
        unfold Sto.leave
        rw [hfil]
        dsimp only
        rw [hfr]
        exact h5
    | cons a as =>
      refine iteF ?_
      obtain ⟨f, fs, hfil⟩ : ∃ f fs, s.frs.filter (fun f => !f.dirty) = f :: fs := by
        cases e : s.frs.filter (fun f => !f.dirty) with
        | nil =>
          have := kA.nil_iff.mpr e
          rw [hk] at this
          cases this
        | cons x xs => exact ⟨x, xs, rfl⟩
      have ra : FraAt K H a f := by
        rw [hk, hfil] at kA
        cases kA with
        | cons r _ => exact r
      have ho2 := s2 _ _ ho
      rw [hk] at hv2
      refine ⟨_, rfl, _, _, _, _, _, rfl, ho2, pf.cl_Store, pf.na_Store_frames, rfl, _, rfl, ⟨_, SqL.of h2.lf⟩, ?_⟩
      refine comp_keep (fun g : Fra => !decide (g.room = f.room)) h2.fs (SqL.of h2.lf) (by omega) ?_ ?_ ?_
      · exact of_decide_eq_true rfl
      · rintro b y hb ⟨dy, e⟩ H4 s4 R rr
        have e5 := s4 _ _ e
        obtain ⟨dg, eg⟩ := ra.same (s2.trans s4)
        refine ⟨_, rfl, _, _, _, _, _, rfl, e5, pf.cl_Frame, pf.na_Frame_spot, rfl, _, rfl, p, _, 0, .ref a, rfl, rfl, SqL.of (s4 _ _ hv2), atI_of (j := 0) rfl, a, _, _, _, _, rfl, eg, pf.cl_Frame, pf.na_Frame_spot, rfl, rfl, _, rfl, ?_⟩
        rw [rooms_bl]
        exact rr H4 (Same.refl H4)
      · intro p4 H4 hp4 s4 hv4
        have kA4 := keep2_all (fun g : Fra => !decide (g.room = f.room)) h2.fs
        have ksub4 := keep2_sub (fun g : Fra => !decide (g.room = f.room)) L.fs s.frs
        obtain ⟨h5, k5⟩ := h2.setFrames pf s4 ho2 hp4 hv4 (kA4.imp fun a f _ _ r => r.same s4) (ksub4.nodup ndo.2.2) fun b hb => .inl (ksub4.subset hb)
        refine ⟨_, rfl, L.st, _, dx, _, rfl, s4 _ _ ho2, pf.cl_Store, pf.na_Store_frames, of_decide_eq_true rfl, ?_⟩
        refine q { L with lf := p4, fs := keep2 (fun g : Fra => !decide (g.room = f.room)) L.fs s.frs } _ ?_ rfl rfl rfl ((Step.same L.foot s2).trans k5)
        unfold Sto.leave
        rw [hfil]
        exact h5
theorem leave_d (s : Sto) : s.leave.d = s.d := by
  unfold Sto.leave
  split
  · rfl
  · split
    · rfl
    · dsimp only
      unfold Sto.clean
      split <;> rfl
theorem mid_d (s : Sto) (room : Int) : (s.mid room).d = s.d := by
  unfold Sto.mid
  split
  · split
    · exact leave_d s
    · rfl
  · rfl
theorem clean_row (s : Sto) (i : Nat) : (s.clean i).q.row.length ≤ s.q.row.length + 1 := by
  unfold Sto.clean
  split
  · omega
  · simp [Que.put1]
theorem clean_nfr (s : Sto) (i : Nat) : (s.clean i).frs.length = s.frs.length := by
  unfold Sto.clean
  split <;> simp
theorem others_len (s : Sto) (room : Int) : (s.others room).length ≤ s.frs.length := List.length_filter_le _ _
theorem leave_row (s : Sto) : s.leave.q.row.length ≤ s.q.row.length + 1 := by
  unfold Sto.leave
  split
  · simp
  · split
    · omega
    · exact clean_row s 0
theorem leave_nfr (s : Sto) : s.leave.frs.length ≤ s.frs.length := by
  unfold Sto.leave
  split
  · exact others_len _ _
  · split
    · omega
    · exact Nat.le_trans (others_len _ _) (Nat.le_of_eq (clean_nfr s 0))
theorem mid_row (s : Sto) (room : Int) : (s.mid room).q.row.length ≤ s.q.row.length + 1 := by
  unfold Sto.mid
  split
  · split
    · exact leave_row s
    · omega
  · omega
theorem mid_nfr (s : Sto) (room : Int) : (s.mid room).frs.length ≤ s.frs.length := by
  unfold Sto.mid
  split
  · split
    · exact leave_nfr s
    · omega
  · omega
theorem mine_w {q : Que} {room : Int} {r : Rq} (h : (q.mine room).getLast? = some r) : ∃ n, r.w = some (room, n) := by
  have hm := List.mem_of_getLast? h
  unfold Que.mine at hm
  have hp := of_decide_eq_true (List.mem_filter.mp hm).2
  obtain ⟨c, w, s⟩ := r
  cases w with
  | none => cases hp
  | some p =>
    obtain ⟨p1, p2⟩ := p
    have := V.int.inj hp
    exact ⟨p2, by rw [show p1 = room from this]⟩
def sp_Store_use (K : PySem.W.Frag) : Sp := fun vs H Q _ => ∃ L s room B, vs = [.ref L.st, .int room] ∧ StoAt K H L s ∧ s.Ok B ∧ B ≤ 900000 ∧ 0 ≤ room ∧ room < s.d.sure.length ∧
  ∀ L' H' a, StoAt K H' L' (s.use room) → L'.fs[s.useIx room]? = some a → L'.st = L.st → L'.d = L.d → L'.q.q = L.q.q → Step L.foot L'.foot H H' → Q (.ref a) H'
def t_Store_use (K : PySem.W.Frag) : TS := (tSeq (tAsg (tLc (iList K (tFld K (tVar 0) "frames")) (gName 4) (tTest (tOp rEq (tFld K (tVar 4) "spot") (tVar 1))) (tVar 4) [4]) (gName 2))
    (tSeq (tIfS (tTest (tOp (rEqE K) (tVar 2) (tLst tNil))) (tSeq (tIfS (tTest (tOp rEq (tCB (xLen K) (tCons (tFld K (tVar 0) "frames") tNil)) (tFld K (tVar 0) "most_frames"))) (tDrop (tMeth (He.ga K "Store") "leave" (sp_Store_leave K) [] E0 (tVar 0) tNil)) tNext)
    (tSeq (tAsg (tMeth (He.ga K "Queue") "newest" (sp_Queue_newest K) [] E0 (tFld K (tVar 0) "waiting") (tCons (tVar 1) tNil)) (gName 3))
    (tAsg (tLst (tCons (tMake (He.ga K "Frame") (sp_Frame_init K) [] E0 (tCons (tVar 1) (tCons (tIf (tTest (tOp xIsN (tVar 3) (tC .non))) (tMeth (He.ga K "Disk") "ask_read" (sp_Disk_ask_read K) [] E0 (tFld K (tVar 0) "disk") (tCons (tVar 1) tNil)) (tFld K (tVar 3) "number")) tNil))) tNil)) (gName 2)))) tNext)
    (tSeq (sFld K (tVar 0) (tOp rCat (tLc (iList K (tFld K (tVar 0) "frames")) (gName 4) (tTest (tOp rNe (tFld K (tVar 4) "spot") (tVar 1))) (tVar 4) [4]) (tVar 2)) "frames")
    (tRet (tOp (rIxL K) (tVar 2) (tC (.int 0)))))))
theorem len_Store_use {K : PySem.W.Frag} (vs : List V) (H : Hp) (Q : VK) (E : XK) (h : sp_Store_use K vs H Q E) : vs.length = (["self", "room"] : List Str).length := by
  unfold sp_Store_use at h
  repeat (first | (obtain ⟨e, _⟩ := h; rw [e]; done) | (obtain ⟨e, _⟩ := h; rw [e]; rfl; done) | obtain ⟨_, h⟩ := h)
/-- .. behind the frame that was found -/
theorem use_tail {K : PySem.W.Frag} (pf : PF K) {L : SL} {s : Sto} {room : Int} {H : Hp} {Q : VK} {v4 : Option V} {v3 : Option V} {g : Addr} {gs : List Addr} {frs : List Fra} (h : StoAt K H L s) (hg : H g = some (.lst (gs.map V.ref))) (hA : All2 (FraAt K H) gs frs) (hne : gs ≠ []) (hz : s.frs.length ≤ 1000) (hz2 : gs.length ≤ 1000)
    (nd' : (keep2 (fun f : Fra => !decide (f.room = room)) L.fs s.frs ++ gs).Nodup) (hold : ∀ b, b ∈ gs → b ∈ L.fs ∨ b ∉ L.foot)
    (q : ∀ L' H' a, StoAt K H' L' { s with frs := s.others room ++ frs } → L'.fs[(s.others room).length]? = some a → L'.st = L.st → L'.d = L.d → L'.q.q = L.q.q → Step (L.foot ++ gs) L'.foot H H' → Q (.ref a) H') :
    (tSeq (sFld K (tVar 0) (tOp rCat (tLc (iList K (tFld K (tVar 0) "frames")) (gName 4) (tTest (tOp rNe (tFld K (tVar 4) "spot") (tVar 1))) (tVar 4) [4]) (tVar 2)) "frames")
    (tRet (tOp (rIxL K) (tVar 2) (tC (.int 0))))) { nx := fun _ H' => Q .non H', rt := Q } [some (.ref L.st), some (.int room), some (.ref g), v3, v4] H := by
  obtain ⟨dx, ho⟩ := h.ob
  refine ⟨_, rfl, _, _, _, _, _, rfl, ho, pf.cl_Store, pf.na_Store_frames, rfl, _, rfl, ⟨_, SqL.of h.lf⟩, ?_⟩
  have len := h.fs.len
  refine comp_keep (fun f : Fra => !decide (f.room = room)) h.fs (SqL.of h.lf) (by omega) ?_ ?_ ?_
  · exact of_decide_eq_true rfl
  · rintro b y hb ⟨dy, e⟩ H4 s4 R rr
    have e5 := s4 _ _ e
    refine ⟨_, rfl, _, _, _, _, _, rfl, e5, pf.cl_Frame, pf.na_Frame_spot, rfl, _, rfl, rfl, _, rfl, ?_⟩
    rw [rooms_bl]
    exact rr H4 (Same.refl H4)
  · intro p H1 hp s1 hv
    have kA := keep2_all (fun f : Fra => !decide (f.room = room)) h.fs
    have ksub := keep2_sub (fun f : Fra => !decide (f.room = room)) L.fs s.frs
    have kl := keep2_len (fun f : Fra => !decide (f.room = room)) L.fs s.frs
    have hg1 := s1 _ _ hg
    refine ⟨_, rfl, p, g, _, _, rfl, rfl, hv, hg1, ?_, fun c hc => ?_⟩
    · rw [List.length_map, List.length_map]
      exact Nat.le_trans (by omega : _ ≤ 2000) (by decide)
    have s2 := s1.trans (same_upd (o := .lst ((keep2 (fun f : Fra => !decide (f.room = room)) L.fs s.frs).map V.ref ++ gs.map V.ref)) hc)
    have ho2 := s2 _ _ ho
    have hcH : H c = none := s1.free hc
    have hfr : All2 (FraAt K (upd H1 c (.lst ((keep2 (fun f : Fra => !decide (f.room = room)) L.fs s.frs).map V.ref ++ gs.map V.ref)))) (keep2 (fun f : Fra => !decide (f.room = room)) L.fs s.frs ++ gs) (s.others room ++ frs) :=
      (kA.imp fun a f _ _ r => r.same s2).append (hA.imp fun a f _ _ r => r.same s2)
    have hv2 : (upd H1 c (.lst ((keep2 (fun f : Fra => !decide (f.room = room)) L.fs s.frs).map V.ref ++ gs.map V.ref))) c = some (.lst ((keep2 (fun f : Fra => !decide (f.room = room)) L.fs s.frs ++ gs).map V.ref)) := by
      rw [upd_same, List.map_append]
    obtain ⟨a, as, rfl⟩ : ∃ a as, gs = a :: as := by
      cases gs with
      | nil => exact absurd rfl hne
      | cons a as => exact ⟨a, as, rfl⟩
    have ncs : c ≠ L.st := (ne_of_none ho hcH).symm
    have ncg : g ≠ L.st := ne_ins_lst ho hg
    refine ⟨_, rfl, L.st, _, dx, _, rfl, ho2, pf.cl_Store, pf.na_Store_frames, of_decide_eq_true rfl, ?_⟩
    have hgf : upd (upd H1 c (.lst ((keep2 (fun f : Fra => !decide (f.room = room)) L.fs s.frs).map V.ref ++ (a :: as).map V.ref))) L.st (.ins (He.ga K "Store") dx (putF "frames" (.ref c) (stoF (.ref L.d.d) (.int s.mf) (.int s.md) (.ref L.lf) (.ref L.q.q)))) g = some (.lst ((a :: as).map V.ref)) := by
      rw [upd_ne ncg]
      exact s2 _ _ hg
    refine ⟨_, rfl, g, _, 0, .ref a, rfl, rfl, SqL.of hgf, atI_of (j := 0) rfl, ?_⟩
    have kf : Step (L.foot ++ a :: as) ({ L with lf := c, fs := keep2 (fun f : Fra => !decide (f.room = room)) L.fs s.frs ++ a :: as } : SL).foot H (upd (upd H1 c (.lst ((keep2 (fun f : Fra => !decide (f.room = room)) L.fs s.frs).map V.ref ++ (a :: as).map V.ref))) L.st (.ins (He.ga K "Store") dx (putF "frames" (.ref c) (stoF (.ref L.d.d) (.int s.mf) (.int s.md) (.ref L.lf) (.ref L.q.q))))) := by
      refine (((Step.refl _ H).seq s2).upd (.inr ⟨List.mem_append_left _ st_foot, fun xs => nt_ins ho2⟩)).sub fun b hb => ?_
      unfold SL.foot at hb ⊢
      simp only [List.mem_append, List.mem_cons] at hb ⊢
      rcases hb with hb | hb | hb | hb | hb | hb | hb
      · exact .inl (.inl (.inl hb))
      · exact .inl (.inl (.inr (.inl hb)))
      · exact .inl (.inl (.inr (.inr (.inl hb))))
      · exact .inr (hb ▸ hcH)
      · exact .inl (.inl (.inr (.inr (.inr (.inr (ksub.subset hb))))))
      · exact .inl (.inr (.inl hb))
      · exact .inl (.inr (.inr hb))
    refine q { L with lf := c, fs := keep2 (fun f : Fra => !decide (f.room = room)) L.fs s.frs ++ a :: as } _ a ?_ ?_ rfl rfl rfl kf
    · have nst : ∀ b, b ∈ keep2 (fun f : Fra => !decide (f.room = room)) L.fs s.frs ++ a :: as → b ≠ L.st ∧ b ≠ c := fun b hb => by
        obtain ⟨f, _, dy, e⟩ := hfr.mem hb
        exact ⟨ne_ins_ins pf.ne_Frame_Store.symm ho2 e, ne_lst_ins hv2 e⟩
      have hdj : ∀ b, b ∈ L.d.foot ++ L.q.foot → b ∉ [L.st] := fun b hb z => by
        have := h.nd
        rw [← List.append_assoc, List.nodup_append] at this
        exact this.2.2 b hb L.st (by simp) (by simpa using z)
      have k1 : Step [L.st] [L.st] H (upd (upd H1 c (.lst ((keep2 (fun f : Fra => !decide (f.room = room)) L.fs s.frs).map V.ref ++ (a :: as).map V.ref))) L.st (.ins (He.ga K "Store") dx (putF "frames" (.ref c) (stoF (.ref L.d.d) (.int s.mf) (.int s.md) (.ref L.lf) (.ref L.q.q))))) :=
        ((Step.refl _ H).seq s2).upd (.inr ⟨by simp, fun xs => nt_ins ho2⟩)
      refine ⟨⟨dx, upd_same⟩, (upd_ne ncs).trans hv2, hfr.imp fun b f hb _ e => e.imp fun dy e => (upd_ne (nst b hb).1).trans e, h.q.step k1 fun b hb => hdj b (by simp [hb]), h.d.step k1 fun b hb => hdj b (by simp [hb]), ?_⟩
      have nd0 := h.nd
      rw [← List.append_assoc, List.nodup_append] at nd0
      have : ((L.d.foot ++ L.q.foot) ++ (L.st :: c :: (keep2 (fun f : Fra => !decide (f.room = room)) L.fs s.frs ++ a :: as))).Nodup := by
        rw [List.nodup_append]
        refine ⟨nd0.1, ?_, fun b hb x hx z => ?_⟩
        · simp only [List.nodup_cons]
          refine ⟨?_, ?_, nd'⟩
          · rw [List.mem_cons, not_or]
            exact ⟨ncs.symm, fun z => (nst _ z).1 rfl⟩
          · exact fun z => (nst _ z).2 rfl
        · subst z
          simp only [List.mem_cons, List.mem_append] at hx
          rcases hx with hx | hx | hx | hx
          · exact nd0.2.2 b hb _ (by simp) hx
          · refine h.has (b := b) ?_ (hx ▸ hcH)
            unfold SL.foot
            rw [← List.append_assoc]
            exact List.mem_append_left _ hb
          · exact nd0.2.2 b hb b (by simp [ksub.subset hx]) rfl
          · rcases hold b (by simpa using hx) with z | z
            · exact nd0.2.2 b hb b (by simp [z]) rfl
            · refine z ?_
              unfold SL.foot
              rw [← List.append_assoc]
              exact List.mem_append_left _ hb
      rw [List.append_assoc] at this
      exact this
    · have : (keep2 (fun f : Fra => !decide (f.room = room)) L.fs s.frs).length = (s.others room).length := kA.len
      show (keep2 _ L.fs s.frs ++ a :: as)[_]? = _
      rw [List.getElem?_append_right (by omega), this, Nat.sub_self]
      rfl
end SY

/-! ## Prog, part H: reads, writes -/
namespace SY
open PySem PySem.Spec PyProof.Rows L2 XB
theorem use_own {s : Sto} {room : Int} (h : (s.own room).isEmpty = false) : s.use room = { s with frs := s.others room ++ s.own room } ∧ s.useIx room = (s.others room).length := by
  have hm : s.mid room = s := by
    unfold Sto.mid
    rw [h]
    rfl
  unfold Sto.use Sto.useIx Sto.found
  rw [hm, h]
  exact ⟨rfl, rfl⟩
theorem use_new {s : Sto} {room : Int} (h : (s.own room).isEmpty = true) : s.use room = { s.mid room with frs := (s.mid room).others room ++ [⟨room, (s.mid room).look room, false⟩] } ∧ s.useIx room = ((s.mid room).others room).length := by
  unfold Sto.use Sto.useIx Sto.found
  rw [h]
  exact ⟨rfl, rfl⟩
theorem pure_Store_use {K : PySem.W.Frag} (pf : PF K) {vs : List V} {H : Hp} {Q : VK} {E : XK} (h : sp_Store_use K vs H Q E) : t_Store_use K { nx := fun _ H' => Q .non H', rt := Q } (start ["self", "room", "found", "request", "frame"] vs) H := by
  obtain ⟨L, s, room, B, rfl, h, ok, hB, h0, h1, q⟩ := h
  obtain ⟨dx, ho⟩ := h.ob
  have len := h.fs.len
  have hrow := ok.row (by omega)
  have hnf := ok.nf
  have hmf := ok.mf
  have ndo := own_nd h
  simp only [List.nodup_cons, List.mem_cons, not_or] at ndo
  refine ⟨_, rfl, _, _, _, _, _, rfl, ho, pf.cl_Store, pf.na_Store_frames, rfl, _, rfl, ⟨_, SqL.of h.lf⟩, ?_⟩
  refine comp_keep (fun f : Fra => decide (f.room = room)) h.fs (SqL.of h.lf) (by omega) ?_ ?_ ?_
  · exact of_decide_eq_true rfl
  · rintro b y hb ⟨dy, e⟩ H4 s4 R rr
    have e5 := s4 _ _ e
    refine ⟨_, rfl, _, _, _, _, _, rfl, e5, pf.cl_Frame, pf.na_Frame_spot, rfl, _, rfl, rfl, _, rfl, ?_⟩
    rw [rooms_bl2]
    exact rr H4 (Same.refl H4)
  · intro p H1 hp s1 hv
    have kA := keep2_all (fun f : Fra => decide (f.room = room)) h.fs
    have ksub := keep2_sub (fun f : Fra => decide (f.room = room)) L.fs s.frs
    have kl := keep2_len (fun f : Fra => decide (f.room = room)) L.fs s.frs
    refine ⟨_, rfl, of_decide_eq_true rfl, fun c hc => ⟨p, c, _, rfl, rfl, SqL.of (same_upd hc _ _ hv), SqL.of upd_same, _, rfl, ?_⟩⟩
    have s2 := s1.trans (same_upd (o := .lst []) hc)
    have hv2 := same_upd (o := .lst []) hc _ _ hv
    have h2 := h.same s2
    cases hk : keep2 (fun f : Fra => decide (f.room = room)) L.fs s.frs with
    | cons a as =>
      refine iteF ?_
      have hown : (s.own room).isEmpty = false := by
        cases e : s.own room with
        | nil =>
          have := kA.nil_iff.mpr e
          rw [hk] at this
          cases this
        | cons x xs => rfl
      obtain ⟨eu, ei⟩ := use_own hown
      rw [hk] at hv2 ksub kl kA
      refine use_tail pf h2 hv2 (kA.imp fun a f _ _ r => r.same s2) (by simp) (by omega) (by omega) ?_ (fun b hb => .inl (ksub.subset hb)) fun L' H' a' h3 ha e1 e2 e3 k => ?_
      · rw [List.nodup_append]
        refine ⟨(keep2_sub _ L.fs s.frs).nodup ndo.2.2, ksub.nodup ndo.2.2, fun x hx y hy z => ?_⟩
        subst z
        obtain ⟨f1, _, n1, r1⟩ := keep2_all2 h.fs hx
        rw [← hk] at hy
        obtain ⟨f2, _, n2, r2⟩ := keep2_all2 h.fs hy
        have := fraAt_inj r1 r2
        subst this
        rw [n2] at n1
        cases n1
      · refine q L' H' a' (eu ▸ h3) (ei ▸ ha) e1 e2 e3 ((Step.same (L.foot) s2).trans (k.frame (fun b hb => ?_) fun b hb => .inl hb))
        rcases List.mem_append.mp hb with z | z
        · exact z
        · exact fs_foot (ksub.subset z)
    | nil =>
      refine iteT ?_
      have hown : (s.own room).isEmpty = true := by
        have : s.own room = [] := kA.nil_iff.mp hk
        rw [this]
        rfl
      obtain ⟨eu, ei⟩ := use_new hown
      have ho2 := s2 _ _ ho
      obtain ⟨dd, hod⟩ := h2.d.ob
      -- what goes on behind the leaving
      have rest : ∀ L3 H3, StoAt K H3 L3 (s.mid room) → L3.st = L.st → L3.d = L.d → L3.q.q = L.q.q → Step L.foot L3.foot H H3 → ∀ w, H3 p = some (.lst w) → ∀ v3 v4 : Option V,
          (tSeq (tAsg (tMeth (He.ga K "Queue") "newest" (sp_Queue_newest K) [] E0 (tFld K (tVar 0) "waiting") (tCons (tVar 1) tNil)) (gName 3))
            (tAsg (tLst (tCons (tMake (He.ga K "Frame") (sp_Frame_init K) [] E0 (tCons (tVar 1) (tCons (tIf (tTest (tOp xIsN (tVar 3) (tC .non))) (tMeth (He.ga K "Disk") "ask_read" (sp_Disk_ask_read K) [] E0 (tFld K (tVar 0) "disk") (tCons (tVar 1) tNil)) (tFld K (tVar 3) "number")) tNil))) tNil)) (gName 2)))
            { nx := (tSeq (sFld K (tVar 0) (tOp rCat (tLc (iList K (tFld K (tVar 0) "frames")) (gName 4) (tTest (tOp rNe (tFld K (tVar 4) "spot") (tVar 1))) (tVar 4) [4]) (tVar 2)) "frames") (tRet (tOp (rIxL K) (tVar 2) (tC (.int 0))))) { nx := fun _ H' => Q .non H', rt := Q }, rt := Q } [some (.ref L.st), some (.int room), some (.ref p), v3, v4] H3 := by
        intro L3 H3 h3 e1 e2 e3 k3 w hw v3 v4
        obtain ⟨dx3, ho3⟩ := h3.ob
        obtain ⟨dq3, hq3⟩ := h3.q.ob
        obtain ⟨dd3, hd3⟩ := h3.d.ob
        rw [e1] at ho3
        have ed : (s.mid room).d = s.d := mid_d s room
        have rowm := mid_row s room
        have hwr := ok.wear
        -- the frame's number, then the frame
        have made : ∀ H4, Same H3 H4 → ∀ num : Int, num = (s.mid room).look room → ∀ (u : V) (Q2 : VK), (∀ x H5 H6, H4 x = none → Same H4 H5 → FraAt K H5 x ⟨room, num, false⟩ → ∀ g, H5 g = none → H6 = upd H5 g (.lst [.ref x]) → Q2 (.ref g) H6) →
            ∀ x dy, H4 x = none → H4 dy = none → dy ≠ x → sp_Frame_init K [.ref x, .int room, .int num] (upd (upd H4 dy (.own x)) x (.ins (He.ga K "Frame") dy [])) (fun v H5 => v = .non ∧ ([V.ref x].length ≤ sizeLine ∧ ∀ g, H5 g = none → Q2 (.ref g) (upd H5 g (.lst [.ref x])))) E0 := by
          intro H4 s4 num hnum u Q2 q2 x dy hx hdy hxy
          refine ⟨x, dy, room, num, rfl, upd_same, fun H5 r5 k5 => ⟨rfl, of_decide_eq_true rfl, fun g hg => q2 x H5 _ hx ?_ r5 g hg rfl⟩⟩
          have k6 := (Step.made (C := He.ga K "Frame") hx hdy).trans k5
          exact fun b o e => k6.kp b o e (by simp)
        have tail : ∀ (u : V) x H4 H5 H6, Same H3 H4 → H4 x = none → Same H4 H5 → FraAt K H5 x ⟨room, (s.mid room).look room, false⟩ → ∀ g, H5 g = none → H6 = upd H5 g (.lst [.ref x]) →
            (tSeq (sFld K (tVar 0) (tOp rCat (tLc (iList K (tFld K (tVar 0) "frames")) (gName 4) (tTest (tOp rNe (tFld K (tVar 4) "spot") (tVar 1))) (tVar 4) [4]) (tVar 2)) "frames") (tRet (tOp (rIxL K) (tVar 2) (tC (.int 0))))) { nx := fun _ H' => Q .non H', rt := Q } [some (.ref L.st), some (.int room), some (.ref g), some u, v4] H6 := by
          rintro u x H4 H5 H6 s4 hx s5 r5 g hg rfl
          have s6 : Same H3 (upd H5 g (.lst [.ref x])) := (s4.trans s5).trans (same_upd hg)
          have h6 := h3.same s6
          have hx3 : H3 x = none := s4.free hx
          have nx : x ∉ L3.foot := fun z => h3.has z hx3
          have len3 := h3.fs.len
          have nfm := mid_nfr s room
          have nd3 := own_nd h3
          simp only [List.nodup_cons, List.mem_cons, not_or] at nd3
          rw [← e1]
          refine use_tail pf h6 (gs := [x]) (frs := [⟨room, (s.mid room).look room, false⟩]) upd_same (.one (r5.same (same_upd hg))) (by simp) (by omega) (by simp) ?_ (fun b hb => ?_) fun L' H' a' h7 ha e4 e5 e6 k => ?_
          · rw [List.nodup_append]
            refine ⟨(keep2_sub _ L3.fs _).nodup nd3.2.2, by simp, fun y hy z hz w => ?_⟩
            rw [List.mem_singleton] at hz
            refine nx (fs_foot ?_)
            rw [← hz, ← w]
            exact (keep2_sub _ L3.fs _).subset hy
          · rw [List.mem_singleton] at hb
            exact .inr (hb ▸ nx)
          · refine q L' H' a' (eu ▸ h7) (ei ▸ ha) (e4.trans e1) (e5.trans e2) (e6.trans e3) ?_
            have kk : Step L3.foot (L3.foot ++ [x]) H3 (upd H5 g (.lst [.ref x])) := (Step.same L3.foot s6).sub fun b hb => by
              rcases List.mem_append.mp hb with z | z
              · exact .inl z
              · rw [List.mem_singleton] at z
                exact .inr (z ▸ hx3)
            exact k3.trans (kk.trans k)
        refine ⟨_, rfl, _, _, _, _, _, rfl, ho3, pf.cl_Store, pf.na_Store_waiting, rfl, L3.q.q, dq3, _, rfl, hq3, rfl, _, rfl, L3.q, (s.mid room).q, room, rfl, h3.q, by omega, fun hl H4 s4 => ?_, fun r a hl ra H4 s4 => ?_⟩
        · refine ⟨_, rfl, _, rfl, rfl, _, rfl, iteT ?_⟩
          have ho4 := s4 _ _ ho3
          have hd4 := s4 _ _ hd3
          refine ⟨_, rfl, _, _, _, _, _, rfl, ho4, pf.cl_Store, pf.na_Store_disk, rfl, L3.d.d, dd3, _, rfl, hd4, rfl, _, rfl, L3.d, (s.mid room).d, room, (s.mid room).look room, rfl, (h3.same s4).d, ed ▸ ok.dk hB, ed ▸ ok.left, h0, ?_, fun H5 s5 => ?_⟩
          · have e : (s.mid room).look room = ((s.mid room).d.shown[room.toNat]?).getD 0 := by
              unfold Sto.look
              rw [hl]
            rw [e]
            exact Dsk.look_at h0 (ed ▸ h1)
          · exact made H5 (s4.trans s5) _ rfl .non (fun v H7 => (tSeq (sFld K (tVar 0) (tOp rCat (tLc (iList K (tFld K (tVar 0) "frames")) (gName 4) (tTest (tOp rNe (tFld K (tVar 4) "spot") (tVar 1))) (tVar 4) [4]) (tVar 2)) "frames") (tRet (tOp (rIxL K) (tVar 2) (tC (.int 0))))) { nx := fun _ H' => Q .non H', rt := Q } [some (.ref L.st), some (.int room), some v, some V.non, v4] H7) fun x H6 H7 hx s6 r6 g hg e7 => tail .non x H5 H6 H7 (s4.trans s5) hx s6 r6 g hg e7
        · obtain ⟨n, hn⟩ := mine_w hl
          obtain ⟨dr, er⟩ := ra.same s4
          have hlk : (s.mid room).look room = n := by
            unfold Sto.look
            rw [hl]
            dsimp only
            rw [hn]
            rfl
          refine ⟨_, rfl, _, rfl, rfl, _, rfl, iteN rfl ?_⟩
          refine ⟨_, rfl, _, _, _, _, _, rfl, er, pf.cl_Request, pf.na_Request_number, rfl, ?_⟩
          rw [hn]
          exact made H4 s4 n hlk.symm (.ref a) (fun v H7 => (tSeq (sFld K (tVar 0) (tOp rCat (tLc (iList K (tFld K (tVar 0) "frames")) (gName 4) (tTest (tOp rNe (tFld K (tVar 4) "spot") (tVar 1))) (tVar 4) [4]) (tVar 2)) "frames") (tRet (tOp (rIxL K) (tVar 2) (tC (.int 0))))) { nx := fun _ H' => Q .non H', rt := Q } [some (.ref L.st), some (.int room), some v, some (V.ref a), v4] H7) fun x H6 H7 hx s6 r6 g hg e7 => tail (.ref a) x H4 H6 H7 s4 hx s6 (hlk ▸ r6) g hg e7
      refine ⟨_, rfl, _, _, _, _, _, rfl, ho2, pf.cl_Store, pf.na_Store_frames, rfl, _, _, rfl, .inl (SqL.of h2.lf), _, rfl, _, _, _, _, _, rfl, ho2, pf.cl_Store, pf.na_Store_most_frames, rfl, rfl, _, rfl, ?_⟩
      rw [List.length_map, len, rooms_bl2]
      cases hfull : decide ((s.frs.length : Int) = s.mf) with
      | false =>
        refine iteF (rest L _ ?_ rfl rfl rfl (Step.same L.foot s2) _ hv2 _ _)
        have : s.mid room = s := by
          unfold Sto.mid
          rw [hown, hfull]
          rfl
        rw [this]
        exact h2
      | true =>
        refine iteT ?_
        have hne : s.frs ≠ [] := fun z => by
          have := of_decide_eq_true hfull
          rw [z] at this
          simp at this
          omega
        refine ⟨_, rfl, L.st, dx, _, rfl, ho2, rfl, L, s, rfl, h2, hrow, by omega, hne, fun L3 H3 h3 e1 e2 e3 k3 => ?_⟩
        have : s.mid room = s.leave := by
          unfold Sto.mid
          rw [hown, hfull]
          rfl
        have npf : p ∉ L.foot := fun z => h.has z hp
        exact rest L3 H3 (this ▸ h3) e1 e2 e3 ((Step.same L.foot s2).trans k3) _ (k3.at hv2 npf) _ _
end SY

/-! ## Prog, part I: stores' states, reckoned: deeds, and what stays true -/
namespace SY
open PySem PySem.Spec PyProof.Rows L2 XB
def Sto.mark (s : Sto) (k : Nat) (num : Int) : Sto := match s.frs[k]? with
  | none => s
  | some f => { s with frs := s.frs.set k ⟨f.room, num, true⟩ }
def Sto.marked (s : Sto) (room num : Int) : Sto := (s.use room).mark (s.useIx room) num
def Sto.write (s : Sto) (room num : Int) : Sto :=
  if decide ((s.marked room num).md < (((s.marked room num).frs.filter (·.dirty)).length : Int)) = true then (s.marked room num).clean ((s.marked room num).frs.findIdx (·.dirty)) else s.marked room num
def Sto.val (s : Sto) (room : Int) : Int := (((s.use room).frs[s.useIx room]?).map (·.num)).getD 0
def Sto.roomAt (s : Sto) (i : Nat) : Int := ((s.frs[i]?).map (·.room)).getD 0
def Sto.turns (s : Sto) : List Nat := (List.range s.frs.length).mergeSort fun i j => decide (s.roomAt i ≤ s.roomAt j)
def Sto.wash1 (s : Sto) (i : Nat) : Sto := match s.frs[i]? with
  | none => s
  | some f => if f.dirty = true then s.clean i else s
def Sto.washed (s : Sto) : Sto := s.turns.foldl Sto.wash1 s
def Sto.order (s : Sto) : Sto := { s.washed with q := s.washed.q.put1 none }
def Dsk.take (d : Dsk) (r : Rq) : Dsk := match r.w with
  | none => d.barrier
  | some p => d.write p.1 p.2
def Sto.serve (s : Sto) : Sto := match s.q.row[s.q.pick]? with
  | none => s
  | some r => { s with q := s.q.served r, d := s.d.take r }
def Sto.cnt (s : Sto) : Int := ((s.q.row[s.q.pick]?).map (·.cnt)).getD 0
def drain : Nat → Sto → Sto
  | 0, s => s
  | n + 1, s => drain n s.serve
def cnts : Nat → Sto → List Int
  | 0, _ => []
  | n + 1, s => s.cnt :: cnts n s.serve
def Sto.drained (s : Sto) : Sto := drain s.q.row.length s
def Sto.sync (s : Sto) : Sto := { s.order.drained with d := s.order.drained.d.flush }
theorem frs_ok {s : Sto} {B : Nat} {frs : List Fra} (h : s.Ok B) (hs : ∀ f ∈ frs, ∃ g ∈ s.frs, f.room = g.room) (hl : (frs.length : Int) ≤ s.mf) : ({ s with frs := frs } : Sto).Ok B := by
  refine { h with fr := fun f hf => ?_, nf := hl }
  obtain ⟨g, hg, e⟩ := hs f hf
  rw [e]
  exact h.fr g hg
theorem put_ok {s : Sto} {B : Nat} {w : Option (Int × Int)} (h : s.Ok B) (hw : ∀ p, w = some p → 0 ≤ p.1 ∧ p.1 < s.d.sure.length) : ({ s with q := s.q.put1 w } : Sto).Ok (B + 1) := by
  refine { h with rq := ?_, inc := ?_, ctr := ?_, wear := ?_ }
  · intro r hr p hp
    simp only [Que.put1, List.mem_append, List.mem_singleton] at hr
    rcases hr with hr | rfl
    · exact h.rq r hr p hp
    · exact hw p hp
  · simp only [Que.put1]
    rw [List.pairwise_append]
    refine ⟨h.inc, by simp, fun a ha b hb => ?_⟩
    rw [List.mem_singleton] at hb
    subst hb
    exact h.ctr a ha
  · intro r hr
    simp only [Que.put1, List.mem_append, List.mem_singleton] at hr ⊢
    rcases hr with hr | rfl
    · have := h.ctr r hr
      omega
    · dsimp only
      omega
  · have := h.wear
    simp only [Que.put1, List.length_append, List.length_singleton]
    omega
theorem two_filters {α : Type} (p : α → Bool) : ∀ l : List α, (l.filter fun x => !p x).length + (l.filter p).length = l.length
  | [] => rfl
  | x :: l => by
    have := two_filters p l
    cases h : p x with
    | true =>
      rw [List.filter_cons_of_neg (by simp [h]), List.filter_cons_of_pos h, List.length_cons, List.length_cons]
      omega
    | false =>
      rw [List.filter_cons_of_pos (by simp [h]), List.filter_cons_of_neg (by simp [h]), List.length_cons, List.length_cons]
      omega
theorem clean_ok {s : Sto} {B : Nat} (h : s.Ok B) (i : Nat) : (s.clean i).Ok (B + 1) := by
  unfold Sto.clean
  cases e : s.frs[i]? with
  | none => exact h.mono (by omega)
  | some f =>
    have hm := List.mem_of_getElem? e
    refine frs_ok (s := { s with q := s.q.put1 (some (f.room, f.num)) }) (put_ok h ?_) ?_ ?_
    · rintro p hp
      cases hp
      exact h.fr f hm
    · intro g hg
      rcases List.mem_or_eq_of_mem_set hg with hg | rfl
      · exact ⟨g, hg, rfl⟩
      · exact ⟨f, hm, rfl⟩
    · rw [List.length_set]
      exact h.nf
theorem mem_others {s : Sto} {room : Int} {f : Fra} (h : f ∈ s.others room) : f ∈ s.frs := (List.mem_filter.mp h).1
theorem clean_room2 {s : Sto} {i : Nat} {f : Fra} (h : f ∈ (s.clean i).frs) : ∃ g ∈ s.frs, f.room = g.room := by
  unfold Sto.clean at h
  cases e : s.frs[i]? with
  | none =>
    rw [e] at h
    exact ⟨f, h, rfl⟩
  | some g =>
    rw [e] at h
    rcases List.mem_or_eq_of_mem_set h with h | rfl
    · exact ⟨f, h, rfl⟩
    · exact ⟨g, List.mem_of_getElem? e, rfl⟩
theorem others_lt {s : Sto} {f : Fra} (h : f ∈ s.frs) : (s.others f.room).length < s.frs.length := by
  unfold Sto.others
  refine Nat.lt_of_le_of_ne (List.length_filter_le _ _) fun z => ?_
  have := List.length_filter_eq_length_iff.mp z f h
  simp at this
theorem leave_ok {s : Sto} {B : Nat} (h : s.Ok B) : s.leave.Ok (B + 1) := by
  unfold Sto.leave
  split
  · rename_i c cs e
    refine (frs_ok h (fun f hf => ⟨f, mem_others hf, rfl⟩) ?_).mono (by omega)
    have := others_len s c.room
    have := h.nf
    omega
  · split
    · exact h.mono (by omega)
    · rename_i f fs e
      refine frs_ok (clean_ok h 0) (fun f hf => ⟨f, mem_others hf, rfl⟩) ?_
      have h1 := others_len (s.clean 0) f.room
      have h2 := (clean_ok h 0).nf
      omega
theorem leave_lt {s : Sto} (h : s.frs ≠ []) : s.leave.frs.length < s.frs.length := by
  unfold Sto.leave
  split
  · rename_i c cs e
    have hm : c ∈ s.frs.filter fun f => !f.dirty := by
      rw [e]
      simp
    exact others_lt (List.mem_filter.mp hm).1
  · split
    · contradiction
    · rename_i f fs e
      have h0 : s.frs[0]? = some f := by
        rw [e]
        rfl
      have hm : f.wash ∈ (s.clean 0).frs := by
        rw [clean_room h0]
        exact List.mem_of_getElem? (i := 0) (by rw [List.getElem?_set_self (by rw [e]; simp)])
      have := others_lt hm
      rw [clean_nfr] at this
      exact this
theorem mid_ok {s : Sto} {B : Nat} (h : s.Ok B) (room : Int) : (s.mid room).Ok (B + 1) := by
  unfold Sto.mid
  split
  · split
    · exact leave_ok h
    · exact h.mono (by omega)
  · exact h.mono (by omega)
theorem leave_mf (s : Sto) : s.leave.mf = s.mf ∧ s.leave.md = s.md ∧ s.leave.d = s.d := by
  unfold Sto.leave
  split
  · exact ⟨rfl, rfl, rfl⟩
  · split
    · exact ⟨rfl, rfl, rfl⟩
    · dsimp only
      unfold Sto.clean
      split <;> exact ⟨rfl, rfl, rfl⟩
theorem mid_mf (s : Sto) (room : Int) : (s.mid room).mf = s.mf ∧ (s.mid room).md = s.md ∧ (s.mid room).d = s.d := by
  unfold Sto.mid
  split
  · split
    · exact leave_mf s
    · exact ⟨rfl, rfl, rfl⟩
  · exact ⟨rfl, rfl, rfl⟩
theorem use_ok {s : Sto} {B : Nat} {room : Int} (h : s.Ok B) (h0 : 0 ≤ room) (h1 : room < s.d.sure.length) : (s.use room).Ok (B + 1) := by
  have hm := mid_ok h room
  obtain ⟨e1, e2, e3⟩ := mid_mf s room
  cases ho : (s.own room).isEmpty with
  | false =>
    rw [(use_own ho).1]
    refine (frs_ok h (fun f hf => ?_) ?_).mono (by omega)
    · rcases List.mem_append.mp hf with z | z
      · exact ⟨f, mem_others z, rfl⟩
      · exact ⟨f, (List.mem_filter.mp z).1, rfl⟩
    · have : (s.others room ++ s.own room).length = s.frs.length := by
        have := two_filters (fun f : Fra => decide (f.room = room)) s.frs
        rw [List.length_append]
        exact this
      rw [this]
      exact h.nf
  | true =>
    rw [(use_new ho).1]
    refine { hm with fr := fun f hf => ?_, nf := ?_ }
    · rcases List.mem_append.mp hf with z | z
      · exact hm.fr f (mem_others z)
      · rw [List.mem_singleton] at z
        subst z
        show _ ∧ _ < (((s.mid room).d.sure.length : Nat) : Int)
        rw [e3]
        exact ⟨h0, h1⟩
    · show (((s.mid room).others room ++ [_]).length : Int) ≤ (s.mid room).mf
      rw [e1, List.length_append, List.length_singleton]
      have hl := others_len (s.mid room) room
      have hn := h.nf
      have hmf := h.mf
      by_cases hf : (s.frs.length : Int) = s.mf
      · have : s.mid room = s.leave := by
          unfold Sto.mid
          rw [ho, decide_eq_true hf]
          rfl
        have hne : s.frs ≠ [] := fun z => by
          rw [z] at hf
          simp at hf
          omega
        have := leave_lt hne
        rw [‹s.mid room = s.leave›] at hl
        rw [‹s.mid room = s.leave›]
        omega
      · have : s.mid room = s := by
          unfold Sto.mid
          rw [ho, decide_eq_false hf]
          rfl
        rw [this] at hl ⊢
        omega
theorem mark_ok {s : Sto} {B : Nat} (h : s.Ok B) (k : Nat) (num : Int) : (s.mark k num).Ok B := by
  unfold Sto.mark
  cases e : s.frs[k]? with
  | none => exact h
  | some f =>
    refine frs_ok h (fun g hg => ?_) ?_
    · rcases List.mem_or_eq_of_mem_set hg with hg | rfl
      · exact ⟨g, hg, rfl⟩
      · exact ⟨f, List.mem_of_getElem? e, rfl⟩
    · rw [List.length_set]
      exact h.nf
theorem write_ok {s : Sto} {B : Nat} {room : Int} (h : s.Ok B) (h0 : 0 ≤ room) (h1 : room < s.d.sure.length) (num : Int) : (s.write room num).Ok (B + 2) := by
  have := mark_ok (use_ok h h0 h1) (s.useIx room) num
  unfold Sto.write
  split
  · exact clean_ok this _
  · exact Sto.Ok.mono this (by omega)
theorem wash1_ok {s : Sto} {B : Nat} (h : s.Ok B) (i : Nat) : (s.wash1 i).Ok (B + 1) := by
  unfold Sto.wash1
  split
  · exact h.mono (by omega)
  · split
    · exact clean_ok h i
    · exact h.mono (by omega)
theorem washed_ok : ∀ (l : List Nat) {s : Sto} {B : Nat}, s.Ok B → (l.foldl Sto.wash1 s).Ok (B + l.length)
  | [], s, B, h => h
  | i :: l, s, B, h => by
    have := washed_ok l (wash1_ok h i)
    rw [List.foldl_cons, List.length_cons]
    exact this.mono (by omega)
theorem turns_len (s : Sto) : s.turns.length = s.frs.length := by
  unfold Sto.turns
  rw [List.length_mergeSort, List.length_range]
theorem clean_d (s : Sto) (i : Nat) : (s.clean i).d = s.d ∧ (s.clean i).mf = s.mf ∧ (s.clean i).md = s.md := by
  unfold Sto.clean
  split <;> exact ⟨rfl, rfl, rfl⟩
theorem wash1_d (s : Sto) (i : Nat) : (s.wash1 i).d = s.d ∧ (s.wash1 i).frs.length = s.frs.length := by
  unfold Sto.wash1
  split
  · exact ⟨rfl, rfl⟩
  · split
    · exact ⟨(clean_d s i).1, clean_nfr s i⟩
    · exact ⟨rfl, rfl⟩
theorem washed_d : ∀ (l : List Nat) (s : Sto), (l.foldl Sto.wash1 s).d = s.d ∧ (l.foldl Sto.wash1 s).frs.length = s.frs.length
  | [], s => ⟨rfl, rfl⟩
  | i :: l, s => by
    have h1 := washed_d l (s.wash1 i)
    have h2 := wash1_d s i
    exact ⟨h1.1.trans h2.1, h1.2.trans h2.2⟩
theorem order_ok {s : Sto} {B : Nat} (h : s.Ok B) : s.order.Ok (B + 9) := by
  have h1 := washed_ok s.turns h
  rw [turns_len] at h1
  have := h.nf
  have := h.mf
  exact (put_ok h1 (fun p hp => by cases hp)).mono (by omega)
theorem order_ne (s : Sto) : s.order.q.row ≠ [] := by
  unfold Sto.order Que.put1
  simp
theorem addLast_flat {α : Type} : ∀ (ls : List (List α)) (x : α), ls ≠ [] → (addLast ls x).flatten.length = ls.flatten.length + 1 ∧ (addLast ls x).length = ls.length
  | [], _, h => absurd rfl h
  | [l], x, _ => by simp [addLast]
  | l :: l2 :: ls, x, _ => by
    have h := addLast_flat (l2 :: ls) x (by simp)
    have e : addLast (l :: l2 :: ls) x = l :: addLast (l2 :: ls) x := by
      unfold addLast
      simp
    rw [e]
    simp only [List.flatten_cons, List.length_append, List.length_cons] at h ⊢
    exact ⟨by omega, by omega⟩
theorem mem_addLast {α : Type} {ls : List (List α)} {x : α} {l : List α} {p : α} (h : l ∈ addLast ls x) (hp : p ∈ l) : (∃ l' ∈ ls, p ∈ l') ∨ p = x := by
  unfold addLast at h
  rcases List.mem_or_eq_of_mem_set h with h | rfl
  · exact .inl ⟨l, h, hp⟩
  · rcases List.mem_append.mp hp with z | z
    · cases e : ls.getLast? with
      | none =>
        rw [e] at z
        simp at z
      | some l' =>
        rw [e] at z
        exact .inl ⟨l', List.mem_of_getLast? e, z⟩
    · rw [List.mem_singleton] at z
      exact .inr z
theorem take_sure (d : Dsk) (r : Rq) : (d.take r).sure = d.sure ∧ (d.take r).left = d.left := by
  unfold Dsk.take
  split <;> exact ⟨rfl, rfl⟩
theorem filter_one {q : List Rq} {i : Nat} {r : Rq} (hp : q.Pairwise fun a b => a.cnt < b.cnt) (h : q[i]? = some r) : (q.filter fun o => !decide (o.cnt = r.cnt)).length + 1 = q.length := by
  induction q generalizing i with
  | nil => simp at h
  | cons x xs ih =>
    obtain ⟨h1, h2⟩ := List.pairwise_cons.mp hp
    cases i with
    | zero =>
      rw [List.getElem?_cons_zero] at h
      cases h
      rw [List.filter_cons_of_neg (by simp)]
      have : xs.filter (fun o => !decide (o.cnt = r.cnt)) = xs := by
        rw [List.filter_eq_self]
        intro a ha
        have := h1 a ha
        simp
        omega
      rw [this, List.length_cons]
    | succ i =>
      rw [List.getElem?_cons_succ] at h
      have hlt := h1 r (List.mem_of_getElem? h)
      rw [List.filter_cons_of_pos (by simp; omega), List.length_cons, List.length_cons, ih h2 h]
theorem argBest_le (c : Nat → Nat → Bool) : ∀ n, argBest c n ≤ n := by
  intro n
  induction n with
  | zero => exact Nat.le_of_eq rfl
  | succ n ih =>
    unfold argBest
    split <;> omega
theorem pick_lt {q : Que} (h : q.row ≠ []) : q.pick < q.row.length := by
  have hf := fr_le q
  have hl : 0 < q.row.length := List.length_pos_iff.mpr h
  unfold Que.pick
  split
  · exact hl
  · split
    · exact hl
    · split
      · exact hl
      · have := argBest_le (fun i j => kLt (q.key i) (q.key j)) (q.fr - 1)
        omega
theorem serve_eq {s : Sto} (h : s.q.row ≠ []) : ∃ r, s.q.row[s.q.pick]? = some r ∧ s.serve = { s with q := s.q.served r, d := s.d.take r } ∧ s.cnt = r.cnt := by
  have := pick_lt h
  refine ⟨s.q.row[s.q.pick], List.getElem?_eq_getElem this, ?_, ?_⟩
  · unfold Sto.serve
    rw [List.getElem?_eq_getElem this]
  · unfold Sto.cnt
    rw [List.getElem?_eq_getElem this]
    rfl
theorem serve_ok {s : Sto} {B : Nat} (h : s.Ok B) (hne : s.q.row ≠ []) : s.serve.Ok B ∧ s.serve.q.row.length + 1 = s.q.row.length := by
  obtain ⟨r, hr, e, _⟩ := serve_eq hne
  rw [e]
  have len : (s.q.served r).row.length + 1 = s.q.row.length := by
    unfold Que.served
    rw [List.length_map]
    exact filter_one h.inc hr
  have hm := List.mem_of_getElem? hr
  obtain ⟨e1, e2⟩ := take_sure s.d r
  have sub : ∀ o ∈ (s.q.served r).row, ∃ o' ∈ s.q.row, o.cnt = o'.cnt ∧ o.w = o'.w := by
    intro o ho
    unfold Que.served at ho
    obtain ⟨o', ho', rfl⟩ := List.mem_map.mp ho
    exact ⟨o', (List.mem_filter.mp ho').1, rfl, rfl⟩
  refine ⟨⟨?_, ?_, ?_, ?_, ?_, ?_, ?_, ?_, h.mf, h.md, h.nf, ?_⟩, len⟩
  · dsimp only
    rw [e1]
    exact h.size
  · dsimp only
    rw [e2]
    exact h.left
  · dsimp only
    rw [e1]
    unfold Dsk.take
    split
    · intro lot hl p hp
      unfold Dsk.barrier at hl
      simp only [List.mem_append, List.mem_singleton] at hl
      rcases hl with hl | rfl
      · exact h.drooms lot hl p hp
      · simp at hp
    · rename_i w hw
      intro lot hl p hp
      unfold Dsk.write at hl
      rcases mem_addLast hl hp with ⟨l, h1, h2⟩ | rfl
      · exact h.drooms l h1 p h2
      · exact h.rq r hm w hw
  · dsimp only
    unfold Dsk.take
    split
    · unfold Dsk.barrier
      simp
    · unfold Dsk.write addLast
      intro z
      have := congrArg List.length z
      simp only [List.length_set, List.length_nil] at this
      exact h.ne (List.length_eq_zero_iff.mp this)
  · dsimp only
    rw [e1]
    exact h.fr
  · dsimp only
    rw [e1]
    intro o ho p hp
    obtain ⟨o', h1, _, h2⟩ := sub o ho
    exact h.rq o' h1 p (h2 ▸ hp)
  · show (s.q.served r).row.Pairwise _
    unfold Que.served
    rw [List.pairwise_map]
    exact h.inc.filter _
  · intro o ho
    obtain ⟨o', h1, h2, _⟩ := sub o ho
    show o.cnt < s.q.put
    rw [h2]
    exact h.ctr o' h1
  · have := h.wear
    dsimp only
    unfold Dsk.take
    split
    · unfold Dsk.barrier
      simp only [List.flatten_append, List.length_append, List.length_singleton, List.flatten_cons, List.flatten_nil, List.append_nil, List.length_nil, Nat.add_zero]
      omega
    · unfold Dsk.write
      rename_i w hw
      have e := addLast_flat s.d.lots (w.1, w.2) h.ne
      dsimp only
      rw [e.1, e.2]
      omega
theorem drain_ok : ∀ (n : Nat) {s : Sto} {B : Nat}, s.Ok B → n ≤ s.q.row.length → (drain n s).Ok B ∧ (drain n s).q.row.length + n = s.q.row.length
  | 0, s, B, h, _ => ⟨h, rfl⟩
  | n + 1, s, B, h, hn => by
    obtain ⟨h1, h2⟩ := serve_ok h (fun z => by rw [z] at hn; simp at hn)
    obtain ⟨h3, h4⟩ := drain_ok n h1 (by omega)
    exact ⟨h3, by rw [drain]; omega⟩
theorem drained_ok {s : Sto} {B : Nat} (h : s.Ok B) : s.drained.Ok B ∧ s.drained.q.row = [] := by
  obtain ⟨h1, h2⟩ := drain_ok _ h (Nat.le_refl _)
  exact ⟨h1, List.length_eq_zero_iff.mp (by unfold Sto.drained; omega)⟩
theorem flush_ok {s : Sto} {B : Nat} (h : s.Ok B) : ({ s with d := s.d.flush } : Sto).Ok B := by
  have e : s.d.flush.sure.length = s.d.sure.length := s.d.shown_len
  refine ⟨?_, h.left, ?_, by simp [Dsk.flush], ?_, ?_, h.inc, h.ctr, h.mf, h.md, h.nf, ?_⟩
  · dsimp only
    rw [e]
    exact h.size
  · intro lot hl p hp
    simp only [Dsk.flush, List.mem_singleton] at hl
    subst hl
    simp at hp
  · dsimp only
    rw [e]
    exact h.fr
  · dsimp only
    rw [e]
    exact h.rq
  · have := h.wear
    have : 0 < s.d.lots.length := List.length_pos_iff.mpr h.ne
    show s.q.row.length + 0 + 1 ≤ B
    omega
theorem sync_ok {s : Sto} {B : Nat} (h : s.Ok B) : s.sync.Ok (B + 9) := flush_ok (drained_ok (order_ok h)).1
end SY

/-! ## Prog, part J: stores' deeds, walked -/
namespace SY
open PySem PySem.Spec PyProof.Rows L2 XB
theorem keep2_head {α β : Type} {p : β → Bool} : ∀ {as : List α} {ys : List β} {a : α} {l : List α}, as.length = ys.length → keep2 p as ys = a :: l → as[ys.findIdx p]? = some a ∧ ys.findIdx p < ys.length
  | [], [], a, l, _, h => by simp [keep2] at h
  | [], _ :: _, _, _, h, _ => by cases h
  | _ :: _, [], _, _, h, _ => by cases h
  | b :: as, y :: ys, a, l, hl, h => by
    unfold keep2 at h
    cases hp : p y with
    | true =>
      rw [if_pos hp] at h
      injection h with h1 h2
      subst h1
      rw [List.findIdx_cons, hp]
      exact ⟨rfl, by simp⟩
    | false =>
      rw [if_neg (by simp [hp])] at h
      obtain ⟨h1, h2⟩ := keep2_head (Nat.succ.inj hl) h
      rw [List.findIdx_cons, hp]
      refine ⟨?_, ?_⟩
      · show (b :: as)[ys.findIdx p + 1]? = some a
        rw [List.getElem?_cons_succ]
        exact h1
      · show ys.findIdx p + 1 < _
        rw [List.length_cons]
        omega
def sp_Store_read (K : PySem.W.Frag) : Sp := fun vs H Q _ => ∃ L s room B, vs = [.ref L.st, .int room] ∧ StoAt K H L s ∧ s.Ok B ∧ B ≤ 900000 ∧ 0 ≤ room ∧ room < s.d.sure.length ∧
  ∀ L' H', StoAt K H' L' (s.use room) → L'.st = L.st → L'.d = L.d → L'.q.q = L.q.q → Step L.foot L'.foot H H' → Q (.int (s.val room)) H'
def t_Store_read (K : PySem.W.Frag) : TS := (tSeq (tDrop (tMeth (He.ga K "Store") "check_room" (sp_Store_check_room K) [] E0 (tVar 0) (tCons (tVar 1) tNil)))
    (tRet (tFld K (tMeth (He.ga K "Store") "use" (sp_Store_use K) [] E0 (tVar 0) (tCons (tVar 1) tNil)) "number")))
theorem len_Store_read {K : PySem.W.Frag} (vs : List V) (H : Hp) (Q : VK) (E : XK) (h : sp_Store_read K vs H Q E) : vs.length = (["self", "room"] : List Str).length := by
  unfold sp_Store_read at h
  repeat (first | (obtain ⟨e, _⟩ := h; rw [e]; done) | (obtain ⟨e, _⟩ := h; rw [e]; rfl; done) | obtain ⟨_, h⟩ := h)
theorem pure_Store_read {K : PySem.W.Frag} (pf : PF K) {vs : List V} {H : Hp} {Q : VK} {E : XK} (h : sp_Store_read K vs H Q E) : t_Store_read K { nx := fun _ H' => Q .non H', rt := Q } (start ["self", "room"] vs) H := by
  obtain ⟨L, s, room, B, rfl, h, ok, hB, h0, h1, q⟩ := h
  obtain ⟨dx, ho⟩ := h.ob
  refine ⟨_, rfl, L.st, dx, _, rfl, ho, rfl, _, rfl, L, s, room, rfl, h, h0, h1, ?_⟩
  refine ⟨_, rfl, L.st, dx, _, rfl, ho, rfl, _, rfl, L, s, room, B, rfl, h, ok, hB, h0, h1, fun L' H' a h3 ha e1 e2 e3 k => ?_⟩
  obtain ⟨f, hf, dy, e⟩ := h3.fs.get ha
  refine ⟨a, _, dy, _, _, rfl, e, pf.cl_Frame, pf.na_Frame_number, rfl, ?_⟩
  have : s.val room = f.num := by
    unfold Sto.val
    rw [hf]
    rfl
  rw [← this]
  exact q L' H' h3 e1 e2 e3 k
def sp_Store_write (K : PySem.W.Frag) : Sp := fun vs H Q _ => ∃ L s room num B, vs = [.ref L.st, .int room, .int num] ∧ StoAt K H L s ∧ s.Ok B ∧ B ≤ 900000 ∧ 0 ≤ room ∧ room < s.d.sure.length ∧
  ∀ L' H', StoAt K H' L' (s.write room num) → L'.st = L.st → L'.d = L.d → L'.q.q = L.q.q → Step L.foot L'.foot H H' → Q .non H'
def t_Store_write (K : PySem.W.Frag) : TS := (tSeq (tDrop (tMeth (He.ga K "Store") "check_room" (sp_Store_check_room K) [] E0 (tVar 0) (tCons (tVar 1) tNil)))
    (tSeq (tIfS (tNot (tB (tCall (sp_is_whole K) [] E0 (tCons (tVar 2) tNil)))) tNever tNext)
    (tSeq (tAsg (tMeth (He.ga K "Store") "use" (sp_Store_use K) [] E0 (tVar 0) (tCons (tVar 1) tNil)) (gName 3))
    (tSeq (sFld K (tVar 3) (tVar 2) "number")
    (tSeq (sFld K (tVar 3) (tC (.bl true)) "dirty")
    (tSeq (tAsg (tLc (iList K (tFld K (tVar 0) "frames")) (gName 5) (tB (tFld K (tVar 5) "dirty")) (tVar 5) [5]) (gName 4))
    (tIfS (tTest (tOp xGt (tCB (xLen K) (tCons (tVar 4) tNil)) (tFld K (tVar 0) "most_dirty"))) (tDrop (tMeth (He.ga K "Store") "clean" (sp_Store_clean K) [] E0 (tVar 0) (tCons (tOp (rIxL K) (tVar 4) (tC (.int 0))) tNil))) tNext)))))))
theorem len_Store_write {K : PySem.W.Frag} (vs : List V) (H : Hp) (Q : VK) (E : XK) (h : sp_Store_write K vs H Q E) : vs.length = (["self", "room", "number"] : List Str).length := by
  unfold sp_Store_write at h
  repeat (first | (obtain ⟨e, _⟩ := h; rw [e]; done) | (obtain ⟨e, _⟩ := h; rw [e]; rfl; done) | obtain ⟨_, h⟩ := h)
theorem pure_Store_write {K : PySem.W.Frag} (pf : PF K) {vs : List V} {H : Hp} {Q : VK} {E : XK} (h : sp_Store_write K vs H Q E) : t_Store_write K { nx := fun _ H' => Q .non H', rt := Q } (start ["self", "room", "number", "frame", "dirty", "other"] vs) H := by
  obtain ⟨L, s, room, num, B, rfl, h, ok, hB, h0, h1, q⟩ := h
  obtain ⟨dx, ho⟩ := h.ob
  refine ⟨_, rfl, L.st, dx, _, rfl, ho, rfl, _, rfl, L, s, room, rfl, h, h0, h1, ?_⟩
  refine ⟨_, rfl, .int num, "int", true, false, rfl, .base (.int num), by decide +kernel, by decide +kernel, _, rfl, iteF ?_⟩
  refine ⟨_, rfl, L.st, dx, _, rfl, ho, rfl, _, rfl, L, s, room, B, rfl, h, ok, hB, h0, h1, fun L1 H1 a h3 ha e1 e2 e3 k => ?_⟩
  obtain ⟨f, hf, dy, e⟩ := h3.fs.get ha
  obtain ⟨h4, k4⟩ := h3.setFrame pf (dx := dy) (f' := { f with num := num }) ha hf
  have hf4 : ({ s.use room with frs := (s.use room).frs.set (s.useIx room) { f with num := num } } : Sto).frs[s.useIx room]? = some { f with num := num } := by
    show ((s.use room).frs.set _ _)[_]? = _
    rw [List.getElem?_set_self (List.getElem?_eq_some_iff.mp hf).1]
  obtain ⟨h5, k5⟩ := h4.setFrame pf (dx := dy) (f' := ⟨f.room, num, true⟩) ha hf4
  have em : ({ ({ s.use room with frs := (s.use room).frs.set (s.useIx room) { f with num := num } } : Sto) with frs := ((s.use room).frs.set (s.useIx room) { f with num := num }).set (s.useIx room) ⟨f.room, num, true⟩ } : Sto) = s.marked room num := by
    unfold Sto.marked Sto.mark
    rw [hf]
    dsimp only
    rw [List.set_set]
  rw [em] at h5
  refine ⟨_, rfl, _, rfl, a, _, dy, _, rfl, e, pf.cl_Frame, pf.na_Frame_number, of_decide_eq_true rfl, ?_⟩
  refine ⟨_, rfl, a, _, dy, _, rfl, upd_same, pf.cl_Frame, pf.na_Frame_dirty, of_decide_eq_true rfl, ?_⟩
  have k6 := (k.trans k4).trans k5
  obtain ⟨dx5, ho5⟩ := h5.ob
  rw [e1] at ho5
  have len5 := h5.fs.len
  have okm := mark_ok (use_ok ok h0 h1) (s.useIx room) num
  have okm : (s.marked room num).Ok (B + 1) := okm
  have hnf := okm.nf
  have hmf := okm.mf
  refine ⟨_, rfl, _, _, _, _, _, rfl, ho5, pf.cl_Store, pf.na_Store_frames, rfl, _, rfl, ⟨_, SqL.of h5.lf⟩, ?_⟩
  refine comp_keep (fun f : Fra => f.dirty) h5.fs (SqL.of h5.lf) (by omega) ?_ ?_ ?_
  · exact of_decide_eq_true rfl
  · rintro b y hb ⟨dz, e⟩ H6 s6 R rr
    have e6 := s6 _ _ e
    exact ⟨_, rfl, _, _, _, _, _, rfl, e6, pf.cl_Frame, pf.na_Frame_dirty, rfl, _, rfl, rr H6 (Same.refl H6)⟩
  · intro p H6 hp s6 hv
    have kA := keep2_all (fun f : Fra => f.dirty) h5.fs
    have h6 := h5.same s6
    have ho6 := s6 _ _ ho5
    have k7 := k6.seq s6
    refine ⟨_, rfl, _, _, rfl, .inl (SqL.of hv), _, rfl, _, _, _, _, _, rfl, ho6, pf.cl_Store, pf.na_Store_most_dirty, rfl, _, _, rfl, rfl, _, rfl, ?_⟩
    rw [List.length_map, kA.len]
    have ew : s.write room num = if decide ((s.marked room num).md < (((s.marked room num).frs.filter (·.dirty)).length : Int)) = true then (s.marked room num).clean ((s.marked room num).frs.findIdx (·.dirty)) else s.marked room num := rfl
    cases hc : decide ((s.marked room num).md < (((s.marked room num).frs.filter (·.dirty)).length : Int)) with
    | false =>
      refine iteF ?_
      rw [hc, if_neg Bool.false_ne_true] at ew
      exact q L1 _ (ew ▸ h6) e1 e2 e3 k7
    | true =>
      refine iteT ?_
      rw [hc, if_pos rfl] at ew
      have hgt := of_decide_eq_true hc
      have hmd := okm.md
      obtain ⟨b, l, hk⟩ : ∃ b l, keep2 (fun f : Fra => f.dirty) L1.fs (s.marked room num).frs = b :: l := by
        cases e : keep2 (fun f : Fra => f.dirty) L1.fs (s.marked room num).frs with
        | nil =>
          have := kA.len
          rw [e, List.length_nil] at this
          omega
        | cons b l => exact ⟨b, l, rfl⟩
      obtain ⟨hi, hlt⟩ := keep2_head len5 hk
      refine ⟨_, rfl, L1.st, dx5, _, by rw [e1], by rw [e1]; exact ho6, rfl, _, rfl, p, _, 0, .ref b, rfl, rfl, SqL.of hv, atI_of (j := 0) ?_, ?_⟩
      · rw [List.getElem?_map, hk]
        rfl
      refine ⟨L1, s.marked room num, (s.marked room num).frs.findIdx (·.dirty), b, (s.marked room num).frs[(s.marked room num).frs.findIdx (·.dirty)], by rw [e1]; rfl, h6, okm.row (by omega), hi, List.getElem?_eq_getElem hlt, fun L' H' h7 a1 a2 a3 a4 a5 k8 => ?_⟩
      exact q L' H' (ew ▸ h7) (a1.trans e1) (a2.trans e2) (a5.trans e3) (k7.trans k8)
end SY

/-! ## Prog, part K: orders, serving, looks -/
namespace SY
open PySem PySem.Spec PyProof.Rows L2 XB
def ksOf (H : Hp) (a : Addr) : Int := match H a with
  | some (.ins _ _ fs) => match fs.lookup ("spot" : Str) with
    | some (.int i) => i
    | _ => 0
  | _ => 0
theorem ks_fra {K : PySem.W.Frag} {H : Hp} {a : Addr} {f : Fra} (h : FraAt K H a f) : ksOf H a = f.room := by
  obtain ⟨dx, e⟩ := h
  unfold ksOf
  rw [e]
  rfl
theorem sorted_refs {K : PySem.W.Frag} {H : Hp} {fs : List Addr} {s : Sto} (h : All2 (FraAt K H) fs s.frs) :
    fs.mergeSort (fun a b => decide (ksOf H a ≤ ksOf H b)) = s.turns.map fun i => (fs[i]?).getD 0 := by
  unfold Sto.turns
  have e : fs = (List.range s.frs.length).map fun i => (fs[i]?).getD 0 := by
    refine List.ext_getElem? fun i => ?_
    rw [List.getElem?_map, ← h.len]
    by_cases hi : i < fs.length
    · rw [List.getElem?_range hi, List.getElem?_eq_getElem hi]
      simp [hi]
    · rw [List.getElem?_eq_none (by omega), List.getElem?_eq_none (by rw [List.length_range]; omega)]
      rfl
  rw [List.map_mergeSort (s := fun a b => decide (ksOf H a ≤ ksOf H b)), ← e]
  intro i hi j hj
  have kk : ∀ i, i ∈ List.range s.frs.length → ksOf H ((fs[i]?).getD 0) = s.roomAt i := by
    intro i hi
    have hi : i < s.frs.length := List.mem_range.mp hi
    obtain ⟨a, ha, r⟩ := h.get2 (List.getElem?_eq_getElem hi)
    rw [ha]
    unfold Sto.roomAt
    rw [List.getElem?_eq_getElem hi]
    exact ks_fra r
  rw [kk i hi, kk j hj]
theorem wash1_no {s : Sto} {i : Nat} {f : Fra} (h : s.frs[i]? = some f) (hd : f.dirty = false) : s.wash1 i = s := by
  unfold Sto.wash1
  rw [h]
  dsimp only
  rw [hd, if_neg Bool.false_ne_true]
theorem wash1_yes {s : Sto} {i : Nat} {f : Fra} (h : s.frs[i]? = some f) (hd : f.dirty = true) : s.wash1 i = s.clean i := by
  unfold Sto.wash1
  rw [h]
  dsimp only
  rw [hd, if_pos rfl]
def sp_spot_of (K : PySem.W.Frag) : Sp := fun vs H Q _ => ∃ a f, vs = [.ref a] ∧ FraAt K H a f ∧ Q (.int f.room) H
def t_spot_of (K : PySem.W.Frag) : TS := (tRet (tFld K (tVar 0) "spot"))
theorem len_spot_of {K : PySem.W.Frag} (vs : List V) (H : Hp) (Q : VK) (E : XK) (h : sp_spot_of K vs H Q E) : vs.length = (["frame"] : List Str).length := by
  unfold sp_spot_of at h
  repeat (first | (obtain ⟨e, _⟩ := h; rw [e]; done) | (obtain ⟨e, _⟩ := h; rw [e]; rfl; done) | obtain ⟨_, h⟩ := h)
theorem pure_spot_of {K : PySem.W.Frag} (pf : PF K) {vs : List V} {H : Hp} {Q : VK} {E : XK} (h : sp_spot_of K vs H Q E) : t_spot_of K { nx := fun _ H' => Q .non H', rt := Q } (start ["frame"] vs) H := by
  obtain ⟨a, f, rfl, ⟨dx, e⟩, q⟩ := h
  exact ⟨_, rfl, _, _, _, _, _, rfl, e, pf.cl_Frame, pf.na_Frame_spot, rfl, q⟩
def sp_Store_order (K : PySem.W.Frag) : Sp := fun vs H Q _ => ∃ L s B, vs = [.ref L.st] ∧ StoAt K H L s ∧ s.Ok B ∧ B ≤ 900000 ∧
  ∀ L' H', StoAt K H' L' s.order → L'.st = L.st → L'.d = L.d → L'.q.q = L.q.q → Step L.foot L'.foot H H' → Q .non H'
def t_Store_order (K : PySem.W.Frag) : TS := (tSeq (tFor (iList K (tCKw (rSortKey K (He.ga K "spot_of") (He.ga K "Frame") "spot") (tCons (tFld K (tVar 0) "frames") tNil) (tCons (tC (.ref (He.ga K "spot_of"))) tNil))) (gName 1) (tIfS (tB (tFld K (tVar 1) "dirty")) (tDrop (tMeth (He.ga K "Store") "clean" (sp_Store_clean K) [] E0 (tVar 0) (tCons (tVar 1) tNil))) tNext))
    (tDrop (tMeth (He.ga K "Queue") "put" (sp_Queue_put K) [] E0 (tFld K (tVar 0) "waiting") (tCons (tC .non) (tCons (tC .non) tNil)))))
theorem len_Store_order {K : PySem.W.Frag} (vs : List V) (H : Hp) (Q : VK) (E : XK) (h : sp_Store_order K vs H Q E) : vs.length = (["self"] : List Str).length := by
  unfold sp_Store_order at h
  repeat (first | (obtain ⟨e, _⟩ := h; rw [e]; done) | (obtain ⟨e, _⟩ := h; rw [e]; rfl; done) | obtain ⟨_, h⟩ := h)
theorem pure_Store_order {K : PySem.W.Frag} (pf : PF K) {vs : List V} {H : Hp} {Q : VK} {E : XK} (h : sp_Store_order K vs H Q E) : t_Store_order K { nx := fun _ H' => Q .non H', rt := Q } (start ["self", "frame"] vs) H := by
  obtain ⟨L, s, B, rfl, h, ok, hB, q⟩ := h
  obtain ⟨dx, ho⟩ := h.ob
  have len := h.fs.len
  have hnf := ok.nf
  have hmf := ok.mf
  have hlen8 : s.turns.length ≤ 8 := by
    rw [turns_len]
    omega
  refine ⟨_, rfl, _, _, _, _, _, rfl, ho, pf.cl_Store, pf.na_Store_frames, rfl, L.lf, L.fs, ksOf H, rfl, rfl, SqL.of h.lf, fun x hx => ?_, fun p hp => ?_⟩
  · obtain ⟨f, _, r⟩ := h.fs.mem hx
    have := ks_fra r
    obtain ⟨dy, e⟩ := r
    refine ⟨dy, _, e, ?_⟩
    rw [this]
    rfl
  rw [sorted_refs h.fs]
  have s1 := same_upd (o := .lst ((s.turns.map fun i => (L.fs[i]?).getD 0).map V.ref)) hp
  have h1 := h.same s1
  have npf : p ∉ L.foot := fun z => h.has z hp
  refine ⟨p, rfl, ⟨_, SqL.of upd_same⟩, ?_⟩
  refine for_list (xs := (s.turns.map fun i => (L.fs[i]?).getD 0).map V.ref) (fun n σ H2 => ∃ L2, StoAt K H2 L2 ((s.turns.take n).foldl Sto.wash1 s) ∧ L2.st = L.st ∧ L2.d = L.d ∧ L2.q.q = L.q.q ∧ L2.fs = L.fs ∧ Step L.foot L2.foot (upd H p (.lst ((s.turns.map fun i => (L.fs[i]?).getD 0).map V.ref))) H2 ∧ ∃ v1, σ = [some (.ref L.st), v1])
    ⟨L, h1, rfl, rfl, rfl, rfl, Step.refl _ _, _, rfl⟩ (fun n σ H2 _ h2 => ?_) ?_ ?_
  · obtain ⟨L2, _, _, _, _, _, k, _⟩ := h2
    exact SqL.of (k.at upd_same npf)
  · rintro n x σ H2 hx ⟨L2, h2, e1, e2, e3, e4, k, v1, rfl⟩
    rw [List.map_map, List.getElem?_map] at hx
    obtain ⟨i, hi, rfl⟩ := Option.map_eq_some_iff.mp hx
    have hir : i < s.frs.length := by
      have := List.mem_of_getElem? hi
      unfold Sto.turns at this
      rw [List.mem_mergeSort] at this
      exact List.mem_range.mp this
    have hn := (List.getElem?_eq_some_iff.mp hi).1
    have wd := washed_d (s.turns.take n) s
    have wok := washed_ok (s.turns.take n) ok
    have htl : (s.turns.take n).length ≤ 8 := by
      rw [List.length_take]
      omega
    obtain ⟨f, hf⟩ : ∃ f, ((s.turns.take n).foldl Sto.wash1 s).frs[i]? = some f := ⟨_, List.getElem?_eq_getElem (by rw [wd.2]; exact hir)⟩
    obtain ⟨a, ha, dy, e⟩ := h2.fs.get2 hf
    have ha0 : (L.fs[i]?).getD 0 = a := by
      rw [← e4, ha]
      rfl
    have fold : (s.turns.take (n + 1)).foldl Sto.wash1 s = ((s.turns.take n).foldl Sto.wash1 s).wash1 i := by
      rw [take_one hi, List.foldl_append]
      rfl
    dsimp only [Function.comp]
    rw [ha0]
    refine ⟨_, rfl, _, _, _, _, _, rfl, e, pf.cl_Frame, pf.na_Frame_dirty, rfl, _, rfl, ?_⟩
    cases hd : f.dirty with
    | false =>
      refine iteF ⟨L2, ?_, e1, e2, e3, e4, k, _, rfl⟩
      rw [fold, wash1_no hf hd]
      exact h2
    | true =>
      obtain ⟨dx2, ho2⟩ := h2.ob
      rw [e1] at ho2
      refine iteT ⟨_, rfl, L.st, dx2, _, rfl, ho2, rfl, _, rfl, L2, _, i, a, f, by rw [e1]; rfl, h2, wok.row (by omega), ha, hf, fun L3 H3 h3 a1 a2 a3 a4 a5 k3 => ?_⟩
      refine ⟨L3, ?_, a1.trans e1, a2.trans e2, a5.trans e3, a4.trans e4, k.trans k3, _, rfl⟩
      rw [fold, wash1_yes hf hd]
      exact h3
  · rintro σ H2 ⟨L2, h2, e1, e2, e3, e4, k, v1, rfl⟩
    rw [List.length_map, List.length_map, List.take_length] at h2
    obtain ⟨dx2, ho2⟩ := h2.ob
    obtain ⟨dq2, hq2⟩ := h2.q.ob
    rw [e1] at ho2
    have wok := washed_ok s.turns ok
    refine ⟨_, rfl, _, _, _, _, _, rfl, ho2, pf.cl_Store, pf.na_Store_waiting, rfl, L2.q.q, dq2, _, rfl, hq2, rfl, L2.q, _, none, rfl, h2.q, wok.row (by omega), fun D H3 hD hDq k3 => ?_⟩
    obtain ⟨h3, k4⟩ := h2.withQue k3 hD hDq
    exact q { L2 with q := D } H3 h3 e1 e2 (hDq.trans e3) (((Step.same L.foot s1).trans k).trans k4)
def sp_Store_serve (K : PySem.W.Frag) : Sp := fun vs H Q _ => ∃ L s B, vs = [.ref L.st] ∧ StoAt K H L s ∧ s.Ok B ∧ B ≤ 1000000 ∧ s.q.row ≠ [] ∧ s.d.Ok ∧
  ∀ L' H', StoAt K H' L' s.serve → L'.st = L.st → L'.d.d = L.d.d → L'.q.q = L.q.q → Step L.foot L'.foot H H' → Q (.int s.cnt) H'
def t_Store_serve (K : PySem.W.Frag) : TS := (tSeq (tAsg (tMeth (He.ga K "Queue") "choice" (sp_Queue_choice K) [] E0 (tFld K (tVar 0) "waiting") tNil) (gName 1))
    (tSeq (tIfS (tB (tMeth (He.ga K "Request") "is_write" (sp_Request_is_write K) [] E0 (tVar 1) tNil)) (tDrop (tMeth (He.ga K "Disk") "ask_write" (sp_Disk_ask_write K) [] E0 (tFld K (tVar 0) "disk") (tCons (tFld K (tVar 1) "spot") (tCons (tFld K (tVar 1) "number") tNil)))) (tDrop (tMeth (He.ga K "Disk") "ask_barrier" (sp_Disk_ask_barrier K) [] E0 (tFld K (tVar 0) "disk") tNil)))
    (tSeq (tDrop (tMeth (He.ga K "Queue") "served" (sp_Queue_served K) [] E0 (tFld K (tVar 0) "waiting") (tCons (tVar 1) tNil)))
    (tRet (tFld K (tVar 1) "count")))))
theorem len_Store_serve {K : PySem.W.Frag} (vs : List V) (H : Hp) (Q : VK) (E : XK) (h : sp_Store_serve K vs H Q E) : vs.length = (["self"] : List Str).length := by
  unfold sp_Store_serve at h
  repeat (first | (obtain ⟨e, _⟩ := h; rw [e]; done) | (obtain ⟨e, _⟩ := h; rw [e]; rfl; done) | obtain ⟨_, h⟩ := h)
theorem pure_Store_serve {K : PySem.W.Frag} (pf : PF K) {vs : List V} {H : Hp} {Q : VK} {E : XK} (h : sp_Store_serve K vs H Q E) : t_Store_serve K { nx := fun _ H' => Q .non H', rt := Q } (start ["self", "request"] vs) H := by
  obtain ⟨L, s, B, rfl, h, ok, hB, hne, dok, q⟩ := h
  obtain ⟨dx, ho⟩ := h.ob
  obtain ⟨dq, hq⟩ := h.q.ob
  obtain ⟨r, hr, es, ec⟩ := serve_eq hne
  have hrow := ok.row hB
  refine ⟨_, rfl, _, _, _, _, _, rfl, ho, pf.cl_Store, pf.na_Store_waiting, rfl, L.q.q, dq, _, rfl, hq, rfl, L.q, s.q, rfl, h.q, hrow, hne, fun a r' H1 ha hr' ra s1 => ?_⟩
  rw [hr] at hr'
  cases hr'
  have h1 := h.same s1
  obtain ⟨dx1, ho1⟩ := h1.ob
  obtain ⟨dd1, hd1⟩ := h1.d.ob
  obtain ⟨dr, er⟩ := ra.same s1
  -- behind the disk's turn
  have tail : ∀ D H2, DiskAt K H2 D (s.d.take r) → D.d = L.d.d → Step L.d.foot D.foot H1 H2 →
      (tSeq (tDrop (tMeth (He.ga K "Queue") "served" (sp_Queue_served K) [] E0 (tFld K (tVar 0) "waiting") (tCons (tVar 1) tNil))) (tRet (tFld K (tVar 1) "count"))) { nx := fun _ H' => Q .non H', rt := Q } [some (.ref L.st), some (.ref a)] H2 := by
    intro D H2 hD hDd k
    obtain ⟨h2, k2⟩ := h1.withDisk k hD hDd
    obtain ⟨dx2, ho2⟩ := h2.ob
    obtain ⟨dq2, hq2⟩ := h2.q.ob
    obtain ⟨a', ha', ra'⟩ := h2.q.rs.get2 hr
    rw [show a' = a from Option.some.inj (ha'.symm.trans ha)] at ra'
    refine ⟨_, rfl, _, _, _, _, _, rfl, ho2, pf.cl_Store, pf.na_Store_waiting, rfl, L.q.q, dq2, _, rfl, hq2, rfl, _, rfl, L.q, s.q, a, r, rfl, h2.q, hrow, ra', fun D3 H3 hD3 hq3 k3 r3 => ?_⟩
    obtain ⟨h3, k4⟩ := h2.withQue k3 hD3 hq3
    obtain ⟨dr3, er3⟩ := r3
    refine ⟨_, rfl, _, _, _, _, _, rfl, er3, pf.cl_Request, pf.na_Request_count, rfl, ?_⟩
    rw [← ec]
    exact q { L with q := D3, d := D } H3 (es ▸ h3) rfl hDd hq3 (((Step.same L.foot s1).trans k2).trans k4)
  refine ⟨_, rfl, a, dr, _, rfl, er, rfl, a, r, rfl, ⟨dr, er⟩, _, rfl, ?_⟩
  obtain ⟨c, w, sn⟩ := r
  cases w with
  | none =>
    refine iteF ⟨_, rfl, _, _, _, _, _, rfl, ho1, pf.cl_Store, pf.na_Store_disk, rfl, L.d.d, dd1, _, rfl, hd1, rfl, L.d, s.d, rfl, h1.d, dok, ok.left, fun D H2 hD hDd k => tail D H2 hD hDd k⟩
  | some p =>
    refine iteT ⟨_, rfl, _, _, _, _, _, rfl, ho1, pf.cl_Store, pf.na_Store_disk, rfl, L.d.d, dd1, _, rfl, hd1, rfl, _, rfl, _, _, _, _, _, rfl, er, pf.cl_Request, pf.na_Request_spot, rfl, _, rfl, _, _, _, _, _, rfl, er, pf.cl_Request, pf.na_Request_number, rfl, L.d, s.d, p.1, p.2, rfl, h1.d, dok, ok.left, fun D H2 hD hDd k => tail D H2 hD hDd k⟩
def sp_Store_sync (K : PySem.W.Frag) : Sp := fun vs H Q _ => ∃ L s B, vs = [.ref L.st] ∧ StoAt K H L s ∧ s.Ok B ∧ B ≤ 800000 ∧
  ∀ L' H', StoAt K H' L' s.sync → L'.st = L.st → L'.d.d = L.d.d → L'.q.q = L.q.q → Step L.foot L'.foot H H' → Q .non H'
def t_Store_sync (K : PySem.W.Frag) : TS := (tSeq (tDrop (tMeth (He.ga K "Store") "order" (sp_Store_order K) [] E0 (tVar 0) tNil))
    (tSeq (tWhile (tTest (tOp (rNeE K) (tFld K (tFld K (tVar 0) "waiting") "row") (tLst tNil))) (tDrop (tMeth (He.ga K "Store") "serve" (sp_Store_serve K) [] E0 (tVar 0) tNil)))
    (tDrop (tMeth (He.ga K "Disk") "ask_flush" (sp_Disk_ask_flush K) [] E0 (tFld K (tVar 0) "disk") tNil))))
theorem len_Store_sync {K : PySem.W.Frag} (vs : List V) (H : Hp) (Q : VK) (E : XK) (h : sp_Store_sync K vs H Q E) : vs.length = (["self"] : List Str).length := by
  unfold sp_Store_sync at h
  repeat (first | (obtain ⟨e, _⟩ := h; rw [e]; done) | (obtain ⟨e, _⟩ := h; rw [e]; rfl; done) | obtain ⟨_, h⟩ := h)
theorem pure_Store_sync {K : PySem.W.Frag} (pf : PF K) {vs : List V} {H : Hp} {Q : VK} {E : XK} (h : sp_Store_sync K vs H Q E) : t_Store_sync K { nx := fun _ H' => Q .non H', rt := Q } (start ["self"] vs) H := by
  obtain ⟨L, s, B, rfl, h, ok, hB, q⟩ := h
  obtain ⟨dx, ho⟩ := h.ob
  refine ⟨_, rfl, L.st, dx, _, rfl, ho, rfl, L, s, B, rfl, h, ok, by omega, fun L1 H1 h1 e1 e2 e3 k1 => ?_⟩
  refine ⟨fun m σ H2 => σ = [some (.ref L.st)] ∧ ∃ L2 t, StoAt K H2 L2 t ∧ t.Ok (B + 9) ∧ t.drained = s.order.drained ∧ m = t.q.row.length ∧ L2.st = L.st ∧ L2.d.d = L.d.d ∧ L2.q.q = L.q.q ∧ Step L.foot L2.foot H H2,
    ⟨_, rfl, L1, s.order, h1, order_ok ok, rfl, rfl, e1, by rw [e2], e3, k1⟩, ?_⟩
  rintro m σ H2 ⟨rfl, L2, t, h2, okt, ed, rfl, a1, a2, a3, k2⟩
  obtain ⟨dx2, ho2⟩ := h2.ob
  obtain ⟨dq2, hq2⟩ := h2.q.ob
  rw [a1] at ho2
  refine ⟨_, rfl, _, _, _, _, _, rfl, ho2, pf.cl_Store, pf.na_Store_waiting, rfl, _, _, _, _, _, rfl, hq2, pf.cl_Queue, pf.na_Queue_row, rfl, of_decide_eq_true rfl, fun c hc => ⟨L2.q.lr, c, _, rfl, rfl, SqL.of (same_upd hc _ _ h2.q.lr), SqL.of upd_same, _, rfl, ?_⟩⟩
  have s3 := same_upd (o := .lst []) hc
  have h3 := h2.same s3
  have ho3 := s3 _ _ ho2
  cases hrow : t.q.row with
  | nil =>
    have : L2.q.rs = [] := h2.q.rs.nil_iff.mpr hrow
    rw [this]
    refine iteF ?_
    have et : t = s.order.drained := by
      rw [← ed]
      unfold Sto.drained
      rw [hrow]
      rfl
    subst et
    obtain ⟨dd3, hd3⟩ := h3.d.ob
    refine ⟨_, rfl, _, _, _, _, _, rfl, ho3, pf.cl_Store, pf.na_Store_disk, rfl, L2.d.d, dd3, _, rfl, hd3, rfl, L2.d, _, rfl, h3.d, okt.dk (by omega), okt.left, fun D H4 hD hDd k4 => ?_⟩
    obtain ⟨h4, k5⟩ := h3.withDisk k4 hD hDd
    exact q { L2 with d := D } H4 h4 a1 (hDd.trans a2) a3 ((k2.seq s3).trans k5)
  | cons x xs =>
    have hne : t.q.row ≠ [] := by
      rw [hrow]
      simp
    obtain ⟨y, ys, hy⟩ : ∃ y ys, L2.q.rs = y :: ys := by
      cases e : L2.q.rs with
      | nil => exact absurd (h2.q.rs.nil_iff.mp e) hne
      | cons y ys => exact ⟨y, ys, rfl⟩
    rw [hy]
    obtain ⟨ok4, ln⟩ := serve_ok okt hne
    refine iteT ⟨fun σ' H' => σ' = [some (.ref L.st)] ∧ ∃ L4, StoAt K H' L4 t.serve ∧ L4.st = L.st ∧ L4.d.d = L.d.d ∧ L4.q.q = L.q.q ∧ Step L.foot L4.foot H H', ?_, ?_⟩
    · rintro σ' H' ⟨rfl, L4, h4, b1, b2, b3, k4⟩
      refine ⟨t.serve.q.row.length, by rw [hrow] at ln; rw [List.length_cons] at ln ⊢; omega, rfl, L4, t.serve, h4, ok4, ?_, rfl, b1, b2, b3, k4⟩
      rw [← ed]
      unfold Sto.drained
      rw [← ln]
      rfl
    · refine ⟨_, rfl, L.st, dx2, _, rfl, ho3, rfl, L2, t, B + 9, by rw [a1]; rfl, h3, okt, by omega, hne, okt.dk (by omega), fun L4 H4 h4 b1 b2 b3 k4 => ?_⟩
      exact ⟨rfl, L4, h4, b1.trans a1, b2.trans a2, b3.trans a3, (k2.seq s3).trans k4⟩
theorem cnts_step : ∀ (n : Nat) (s : Sto), cnts (n + 1) s = cnts n s ++ [(drain n s).cnt]
  | 0, s => rfl
  | n + 1, s => by
    rw [cnts, cnts_step n s.serve]
    rfl
theorem drain_step : ∀ (n : Nat) (s : Sto), drain (n + 1) s = (drain n s).serve
  | 0, s => rfl
  | n + 1, s => by
    rw [drain, drain_step n s.serve]
    rfl
theorem cnts_len : ∀ (n : Nat) (s : Sto), (cnts n s).length = n
  | 0, s => rfl
  | n + 1, s => by rw [cnts, List.length_cons, cnts_len n]
def sp_Store_idle (K : PySem.W.Frag) : Sp := fun vs H Q _ => ∃ L s B m, vs = [.ref L.st, .int (m : Nat)] ∧ StoAt K H L s ∧ s.Ok B ∧ B ≤ 900000 ∧ m ≤ 999 ∧
  ∀ L' H' p, StoAt K H' L' (drain (min m s.q.row.length) s) → L'.st = L.st → L'.d.d = L.d.d → L'.q.q = L.q.q → Step L.foot L'.foot H H' → H p = none → H' p = some (.lst ((cnts (min m s.q.row.length) s).map V.int)) → p ∉ L'.foot → Q (.ref p) H'
def t_Store_idle (K : PySem.W.Frag) : TS := (tSeq (tIfS (tNot (tB (tCall (sp_within K) [] E0 (tCons (tVar 1) (tCons (tC (.int 0)) (tCons (tC (.int 999)) tNil)))))) tNever tNext)
    (tRet (tLc (iRng1 (tCons (tCB (xMin2) (tCons (tVar 1) (tCons (tCB (xLen K) (tCons (tFld K (tFld K (tVar 0) "waiting") "row") tNil)) tNil))) tNil)) (gName 2) tYes (tMeth (He.ga K "Store") "serve" (sp_Store_serve K) [] E0 (tVar 0) tNil) [2])))
theorem len_Store_idle {K : PySem.W.Frag} (vs : List V) (H : Hp) (Q : VK) (E : XK) (h : sp_Store_idle K vs H Q E) : vs.length = (["self", "many"] : List Str).length := by
  unfold sp_Store_idle at h
  repeat (first | (obtain ⟨e, _⟩ := h; rw [e]; done) | (obtain ⟨e, _⟩ := h; rw [e]; rfl; done) | obtain ⟨_, h⟩ := h)
theorem pure_Store_idle {K : PySem.W.Frag} (pf : PF K) {vs : List V} {H : Hp} {Q : VK} {E : XK} (h : sp_Store_idle K vs H Q E) : t_Store_idle K { nx := fun _ H' => Q .non H', rt := Q } (start ["self", "many", "turn"] vs) H := by
  obtain ⟨L, s, B, m, rfl, h, ok, hB, hm, q⟩ := h
  obtain ⟨dx, ho⟩ := h.ob
  obtain ⟨dq, hq⟩ := h.q.ob
  have len := h.q.rs.len
  refine ⟨_, rfl, m, 0, 999, rfl, _, rfl, within_no (by omega) (by omega) ?_⟩
  refine ⟨_, rfl, _, rfl, _, _, _, _, _, rfl, ho, pf.cl_Store, pf.na_Store_waiting, rfl, _, _, _, _, _, rfl, hq, pf.cl_Queue, pf.na_Queue_row, rfl, _, _, rfl, .inl (SqL.of h.q.lr), _, _, rfl, _, rfl, ?_, ?_, ?_⟩
  · split <;> omega
  · split <;> omega
  rw [List.length_map, len]
  have emin : (if (s.q.row.length : Int) < (m : Int) then (s.q.row.length : Int) else (m : Int)).toNat = min m s.q.row.length := by
    split <;> omega
  rw [emin]
  intro D hD
  have nDf : D ∉ L.foot := fun z => h.has z hD
  refine lc_range (fun n H1 => n ≤ min m s.q.row.length → ∃ L1, StoAt K H1 L1 (drain n s) ∧ L1.st = L.st ∧ L1.d.d = L.d.d ∧ L1.q.q = L.q.q ∧ Step L.foot L1.foot H H1 ∧ H1 D = some (.lst ((cnts n s).map V.int)) ∧ D ∉ L1.foot)
    (fun _ => ⟨L, h.same (same_upd hD), rfl, rfl, rfl, Step.same _ (same_upd hD), by rw [upd_same]; rfl, nDf⟩) ?_ ?_
  · intro n H1 hn hpv
    obtain ⟨L1, h1, e1, e2, e3, k1, hD1, n1⟩ := hpv (by omega)
    refine ⟨rfl, ?_⟩
    unfold tYes
    dsimp only
    rw [if_pos rfl]
    obtain ⟨okn, lnn⟩ := drain_ok n ok (by omega)
    have hne : (drain n s).q.row ≠ [] := fun z => by
      rw [z] at lnn
      simp at lnn
      omega
    obtain ⟨dx1, ho1⟩ := h1.ob
    rw [e1] at ho1
    refine ⟨_, rfl, L.st, dx1, _, rfl, ho1, rfl, L1, _, B, by rw [e1]; rfl, h1, okn, by omega, hne, okn.dk hB, fun L2 H2 h2 a1 a2 a3 k2 => ?_⟩
    have hD2 := k2.at hD1 n1
    have n2 : D ∉ L2.foot := fun z => (k2.nw D z).elim n1 (fun w => by rw [hD1] at w; cases w)
    refine ⟨_, hD2, sz_lt (by rw [List.length_map, cnts_len]; omega), fun _ => ⟨L2, ?_, a1.trans e1, a2.trans e2, a3.trans e3, (k1.trans k2).upd (.inl hD), ?_, n2⟩⟩
    · rw [drain_step]
      exact h2.step (A := [D]) (A' := [D]) ((Step.refl [D] H2).upd (.inr ⟨by simp, fun xs => nt_lst hD2⟩)) fun b hb z => n2 (by rw [List.mem_singleton] at z; exact z ▸ hb)
    · rw [upd_same, cnts_step, List.map_append]
      rfl
  · intro H1 hpv
    obtain ⟨L1, h1, e1, e2, e3, k1, hD1, n1⟩ := hpv (Nat.le_refl _)
    exact q L1 H1 D h1 e1 e2 e3 k1 hD hD1 n1
def heldT (f : Fra) (v : V) (H : Hp) : Prop := ∃ t, v = .ref t ∧ H t = some (.tup [.int f.room, .int f.num, .bl f.dirty])
def askT (r : Rq) (v : V) (H : Hp) : Prop := ∃ t, v = .ref t ∧ H t = some (.tup [.int r.cnt, roomV r.w, numV r.w])
def sp_Store_held (K : PySem.W.Frag) : Sp := fun vs H Q _ => ∃ L s, vs = [.ref L.st] ∧ StoAt K H L s ∧ s.frs.length ≤ 1000 ∧ ∀ p vs H', H p = none → Same H H' → H' p = some (.lst vs) → All2 (fun f v => heldT f v H') s.frs vs → Q (.ref p) H'
def t_Store_held (K : PySem.W.Frag) : TS := (tRet (tLc (iList K (tFld K (tVar 0) "frames")) (gName 1) tYes (tTup (tCons (tFld K (tVar 1) "spot") (tCons (tFld K (tVar 1) "number") (tCons (tFld K (tVar 1) "dirty") tNil)))) [1]))
theorem len_Store_held {K : PySem.W.Frag} (vs : List V) (H : Hp) (Q : VK) (E : XK) (h : sp_Store_held K vs H Q E) : vs.length = (["self"] : List Str).length := by
  unfold sp_Store_held at h
  repeat (first | (obtain ⟨e, _⟩ := h; rw [e]; done) | (obtain ⟨e, _⟩ := h; rw [e]; rfl; done) | obtain ⟨_, h⟩ := h)
theorem pure_Store_held {K : PySem.W.Frag} (pf : PF K) {vs : List V} {H : Hp} {Q : VK} {E : XK} (h : sp_Store_held K vs H Q E) : t_Store_held K { nx := fun _ H' => Q .non H', rt := Q } (start ["self", "frame"] vs) H := by
  obtain ⟨L, s, rfl, h, hz, q⟩ := h
  obtain ⟨dx, ho⟩ := h.ob
  have len := h.fs.len
  refine ⟨_, rfl, _, _, _, _, _, rfl, ho, pf.cl_Store, pf.na_Store_frames, rfl, _, rfl, ⟨_, SqL.of h.lf⟩, ?_⟩
  refine comp_make (fun D f v H => ∃ t, t ≠ D ∧ v = .ref t ∧ H t = some (.tup [.int f.room, .int f.num, .bl f.dirty])) ?_ h.fs (SqL.of h.lf) (by omega) ?_ ?_ ?_
  · rintro D f v H1 H2 k ⟨t, n, e, h⟩
    exact ⟨t, n, e, k _ _ h n⟩
  · exact of_decide_eq_true rfl
  · rintro D acc hD a f ha ⟨dy, e⟩ H1 s1 hv Rk rr
    have e1 := s1 _ _ e
    exact ⟨_, rfl, _, _, _, _, _, rfl, e1, pf.cl_Frame, pf.na_Frame_spot, rfl, _, rfl, _, _, _, _, _, rfl, e1, pf.cl_Frame, pf.na_Frame_number, rfl, _, rfl, _, _, _, _, _, rfl, e1, pf.cl_Frame, pf.na_Frame_dirty, rfl, of_decide_eq_true rfl, fun t ht => rr _ _ (same_upd ht) ⟨t, (ne_of_none hv ht).symm, rfl, upd_same⟩⟩
  · intro p vs H1 hp s1 hv hA
    exact q p vs H1 hp s1 hv (hA.imp fun f v _ _ h => h.elim fun t h => ⟨t, h.2.1, h.2.2⟩)
def sp_Store_queue (K : PySem.W.Frag) : Sp := fun vs H Q _ => ∃ L s, vs = [.ref L.st] ∧ StoAt K H L s ∧ s.q.row.length ≤ 1000000 ∧ ∀ p vs H', H p = none → Same H H' → H' p = some (.lst vs) → All2 (fun r v => askT r v H') s.q.row vs → Q (.ref p) H'
def t_Store_queue (K : PySem.W.Frag) : TS := (tRet (tLc (iList K (tFld K (tFld K (tVar 0) "waiting") "row")) (gName 1) tYes (tTup (tCons (tFld K (tVar 1) "count") (tCons (tFld K (tVar 1) "spot") (tCons (tFld K (tVar 1) "number") tNil)))) [1]))
theorem len_Store_queue {K : PySem.W.Frag} (vs : List V) (H : Hp) (Q : VK) (E : XK) (h : sp_Store_queue K vs H Q E) : vs.length = (["self"] : List Str).length := by
  unfold sp_Store_queue at h
  repeat (first | (obtain ⟨e, _⟩ := h; rw [e]; done) | (obtain ⟨e, _⟩ := h; rw [e]; rfl; done) | obtain ⟨_, h⟩ := h)
theorem pure_Store_queue {K : PySem.W.Frag} (pf : PF K) {vs : List V} {H : Hp} {Q : VK} {E : XK} (h : sp_Store_queue K vs H Q E) : t_Store_queue K { nx := fun _ H' => Q .non H', rt := Q } (start ["self", "request"] vs) H := by
  obtain ⟨L, s, rfl, h, hz, q⟩ := h
  obtain ⟨dx, ho⟩ := h.ob
  obtain ⟨dq, hq⟩ := h.q.ob
  have len := h.q.rs.len
  refine ⟨_, rfl, _, _, _, _, _, rfl, ho, pf.cl_Store, pf.na_Store_waiting, rfl, _, _, _, _, _, rfl, hq, pf.cl_Queue, pf.na_Queue_row, rfl, _, rfl, ⟨_, SqL.of h.q.lr⟩, ?_⟩
  refine comp_make (fun D r v H => ∃ t, t ≠ D ∧ v = .ref t ∧ H t = some (.tup [.int r.cnt, roomV r.w, numV r.w])) ?_ h.q.rs (SqL.of h.q.lr) (by omega) ?_ ?_ ?_
  · rintro D f v H1 H2 k ⟨t, n, e, h⟩
    exact ⟨t, n, e, k _ _ h n⟩
  · exact of_decide_eq_true rfl
  · rintro D acc hD a f ha ⟨dy, e⟩ H1 s1 hv Rk rr
    have e1 := s1 _ _ e
    exact ⟨_, rfl, _, _, _, _, _, rfl, e1, pf.cl_Request, pf.na_Request_count, rfl, _, rfl, _, _, _, _, _, rfl, e1, pf.cl_Request, pf.na_Request_spot, rfl, _, rfl, _, _, _, _, _, rfl, e1, pf.cl_Request, pf.na_Request_number, rfl, of_decide_eq_true rfl, fun t ht => rr _ _ (same_upd ht) ⟨t, (ne_of_none hv ht).symm, rfl, upd_same⟩⟩
  · intro p vs H1 hp s1 hv hA
    exact q p vs H1 hp s1 hv (hA.imp fun f v _ _ h => h.elim fun t h => ⟨t, h.2.1, h.2.2⟩)
def sp_Store_arm (K : PySem.W.Frag) : Sp := fun vs H Q _ => ∃ L s, vs = [.ref L.st] ∧ StoAt K H L s ∧ Q (.int s.q.arm) H
def t_Store_arm (K : PySem.W.Frag) : TS := (tRet (tFld K (tFld K (tVar 0) "waiting") "spot"))
theorem len_Store_arm {K : PySem.W.Frag} (vs : List V) (H : Hp) (Q : VK) (E : XK) (h : sp_Store_arm K vs H Q E) : vs.length = (["self"] : List Str).length := by
  unfold sp_Store_arm at h
  repeat (first | (obtain ⟨e, _⟩ := h; rw [e]; done) | (obtain ⟨e, _⟩ := h; rw [e]; rfl; done) | obtain ⟨_, h⟩ := h)
theorem pure_Store_arm {K : PySem.W.Frag} (pf : PF K) {vs : List V} {H : Hp} {Q : VK} {E : XK} (h : sp_Store_arm K vs H Q E) : t_Store_arm K { nx := fun _ H' => Q .non H', rt := Q } (start ["self"] vs) H := by
  obtain ⟨L, s, rfl, h, q⟩ := h
  obtain ⟨dx, ho⟩ := h.ob
  obtain ⟨dq, hq⟩ := h.q.ob
  exact ⟨_, rfl, _, _, _, _, _, rfl, ho, pf.cl_Store, pf.na_Store_waiting, rfl, _, _, _, _, _, rfl, hq, pf.cl_Queue, pf.na_Queue_spot, rfl, q⟩
def sp_Store_rooms (K : PySem.W.Frag) : Sp := fun vs H Q _ => ∃ L s, vs = [.ref L.st] ∧ StoAt K H L s ∧ Q (.int s.d.sure.length) H
def t_Store_rooms (K : PySem.W.Frag) : TS := (tRet (tMeth (He.ga K "Disk") "rooms" (sp_Disk_rooms K) [] E0 (tFld K (tVar 0) "disk") tNil))
theorem len_Store_rooms {K : PySem.W.Frag} (vs : List V) (H : Hp) (Q : VK) (E : XK) (h : sp_Store_rooms K vs H Q E) : vs.length = (["self"] : List Str).length := by
  unfold sp_Store_rooms at h
  repeat (first | (obtain ⟨e, _⟩ := h; rw [e]; done) | (obtain ⟨e, _⟩ := h; rw [e]; rfl; done) | obtain ⟨_, h⟩ := h)
theorem pure_Store_rooms {K : PySem.W.Frag} (pf : PF K) {vs : List V} {H : Hp} {Q : VK} {E : XK} (h : sp_Store_rooms K vs H Q E) : t_Store_rooms K { nx := fun _ H' => Q .non H', rt := Q } (start ["self"] vs) H := by
  obtain ⟨L, s, rfl, h, q⟩ := h
  obtain ⟨dx, ho⟩ := h.ob
  obtain ⟨dd, hd⟩ := h.d.ob
  exact ⟨_, rfl, _, _, _, _, _, rfl, ho, pf.cl_Store, pf.na_Store_disk, rfl, L.d.d, dd, _, rfl, hd, rfl, L.d, s.d, rfl, h.d, q⟩
end SY

/-! ## Prog, part L: the laws' own draws -/
namespace SY
open PySem PySem.Spec PyProof.Rows L2 XB
theorem pos9 : (0 : Int) < 9 := by decide
theorem pos12 : (0 : Int) < 12 := by decide
theorem pos16 : (0 : Int) < 16 := by decide
theorem pos24 : (0 : Int) < 24 := by decide
theorem pos1009 : (0 : Int) < 1009 := by decide
theorem pos1000003 : (0 : Int) < 1000003 := by decide
theorem seq_kp {K : PySem.W.Frag} {A : Addr → Prop} {H H' : Hp} {a : Addr} {xs : List V} (h : SqL K H a xs) (k : Kp A H H') (n : ¬ A a) : SqL K H' a xs := by
  rcases h with (h | ⟨o, h⟩) | h
  · exact .inl (.inl (k _ _ h n))
  · exact .inl (.inr ⟨o, k _ _ h n⟩)
  · exact .inr h
/-- the script, beside a list that is written at -/
def ScrSt (K : PySem.W.Frag) (H : Hp) (st a : Addr) (ns : List Int) : Prop := (st ≠ a ∧ SqL K H a (ns.map V.int)) ∨ ∀ H', SqL K H' a (ns.map V.int)
section
variable {K : PySem.W.Frag} {H H' : Hp} {st a : Addr} {ns : List Int}
theorem ScrSt.sq (h : ScrSt K H st a ns) : SqL K H a (ns.map V.int) := h.elim (fun z => z.2) fun z => z H
theorem ScrSt.kp (h : ScrSt K H st a ns) (k : Kp (fun b => b = st) H H') : ScrSt K H' st a ns := h.imp (fun z => ⟨z.1, seq_kp z.2 k fun w => z.1 w.symm⟩) id
theorem ScrSt.same (h : ScrSt K H st a ns) (k : Same H H') : ScrSt K H' st a ns := h.imp (fun z => ⟨z.1, k.seq z.2⟩) id
theorem ScrSt.of (h : SqL K H a (ns.map V.int)) (n : H st = none) : ScrSt K H st a ns := by
  rcases h with (h | ⟨o, h⟩) | h
  · exact .inl ⟨(ne_of_none h n).symm, .inl (.inl h)⟩
  · exact .inl ⟨(ne_of_none h n).symm, .inl (.inr ⟨o, h⟩)⟩
  · exact .inr fun H' => .inr h
end
def cellA (ns : List Int) (k : Nat) : Int := (ns[k]?).getD 0
def sp__law_cell_at (K : PySem.W.Frag) : Sp := fun vs H Q _ => ∃ a ns k, vs = [.ref a, .int (k : Nat)] ∧ SqL K H a (ns.map V.int) ∧ Q (.int (cellA ns k)) H
def t__law_cell_at (K : PySem.W.Frag) : TS := (tSeq (tIfS (tTest (tOp xLt (tVar 1) (tCB (xLen K) (tCons (tVar 0) tNil)))) (tRet (tOp (rIxL K) (tVar 0) (tVar 1))) tNext)
    (tRet (tC (.int 0))))
theorem len__law_cell_at {K : PySem.W.Frag} (vs : List V) (H : Hp) (Q : VK) (E : XK) (h : sp__law_cell_at K vs H Q E) : vs.length = (["_law_script", "_law_k"] : List Str).length := by
  unfold sp__law_cell_at at h
  repeat (first | (obtain ⟨e, _⟩ := h; rw [e]; done) | (obtain ⟨e, _⟩ := h; rw [e]; rfl; done) | obtain ⟨_, h⟩ := h)
theorem pure__law_cell_at {K : PySem.W.Frag} (pf : PF K) {vs : List V} {H : Hp} {Q : VK} {E : XK} (h : sp__law_cell_at K vs H Q E) : t__law_cell_at K { nx := fun _ H' => Q .non H', rt := Q } (start ["_law_script", "_law_k"] vs) H := by
  obtain ⟨a, ns, k, rfl, hs, q⟩ := h
  refine ⟨_, rfl, _, rfl, a, _, rfl, .inl hs, _, _, rfl, rfl, _, rfl, ?_⟩
  rw [List.length_map]
  by_cases hk : k < ns.length
  · refine iteY (decide_eq_true (by omega)) ⟨_, rfl, _, rfl, a, _, _, .int (cellA ns k), rfl, rfl, hs, atI_of ?_, q⟩
    unfold cellA
    rw [List.getElem?_map, List.getElem?_eq_getElem hk]
    rfl
  · refine iteN (decide_eq_false (by omega)) ?_
    unfold cellA at q
    rw [List.getElem?_eq_none (by omega)] at q
    exact q
def primes : List Int := [1000003, 1000033, 1000037, 1000039, 1000081, 1000099, 1000117, 1000121, 1000133, 1000151, 1000159, 1000171, 1000183, 1000187, 1000193, 1000199]
theorem prime_at (j : Nat) (h : j < 16) : ∃ p, (primes.map V.int)[j]? = some (.int p) ∧ 0 < p := by
  have : ∀ j : Fin 16, ∃ p, primes[j.val]? = some p ∧ 0 < p := by decide +kernel
  obtain ⟨p, e, h0⟩ := this ⟨j, h⟩
  refine ⟨p, ?_, h0⟩
  rw [List.getElem?_map, e]
  rfl
def sp__law_draw (K : PySem.W.Frag) : Sp := fun vs H Q _ => ∃ c k m, vs = [.int c, .int k, .int m] ∧ 0 < m ∧ ∀ i H', 0 ≤ i → i < m → Same H H' → Q (.int i) H'
def t__law_draw (K : PySem.W.Frag) : TS := (tSeq (tAsg (tTup (tCons (tC (.int 1000003)) (tCons (tC (.int 1000033)) (tCons (tC (.int 1000037)) (tCons (tC (.int 1000039)) (tCons (tC (.int 1000081)) (tCons (tC (.int 1000099)) (tCons (tC (.int 1000117)) (tCons (tC (.int 1000121)) (tCons (tC (.int 1000133)) (tCons (tC (.int 1000151)) (tCons (tC (.int 1000159)) (tCons (tC (.int 1000171)) (tCons (tC (.int 1000183)) (tCons (tC (.int 1000187)) (tCons (tC (.int 1000193)) (tCons (tC (.int 1000199)) tNil))))))))))))))))) (gName 3))
    (tRet (tOp xMod (tOp xMod (tOp xAdd (tOp xMul (tVar 0) (tC (.int 48271))) (tOp xMul (tVar 1) (tC (.int 69621)))) (tOp (rIxT K) (tVar 3) (tOp xMod (tVar 1) (tC (.int 16))))) (tVar 2))))
theorem len__law_draw {K : PySem.W.Frag} (vs : List V) (H : Hp) (Q : VK) (E : XK) (h : sp__law_draw K vs H Q E) : vs.length = (["_law_cell", "_law_k", "_law_most"] : List Str).length := by
  unfold sp__law_draw at h
  repeat (first | (obtain ⟨e, _⟩ := h; rw [e]; done) | (obtain ⟨e, _⟩ := h; rw [e]; rfl; done) | obtain ⟨_, h⟩ := h)
theorem pure__law_draw {K : PySem.W.Frag} (pf : PF K) {vs : List V} {H : Hp} {Q : VK} {E : XK} (h : sp__law_draw K vs H Q E) : t__law_draw K { nx := fun _ H' => Q .non H', rt := Q } (start ["_law_cell", "_law_k", "_law_most", "_law_primes"] vs) H := by
  obtain ⟨c, k, m, rfl, hm, q⟩ := h
  refine ⟨of_decide_eq_true rfl, fun p hp => ?_⟩
  have h1 : 0 ≤ k % 16 := Int.emod_nonneg k (by decide)
  have h2 : k % 16 < 16 := Int.emod_lt_of_pos k (by decide)
  obtain ⟨pr, hpr, h0⟩ := prime_at (k % 16).toNat (by omega)
  refine ⟨_, rfl, _, _, rfl, rfl, .inr (by decide), _, rfl, _, _, rfl, rfl, .inr (by decide), _, _, rfl, rfl, ?_⟩
  refine ⟨_, rfl, _, rfl, _, _, rfl, rfl, pos16, p, primes.map V.int, k % 16, .int pr, rfl, rfl, SqT.of upd_same, ?_, ?_⟩
  · have := atI_of hpr
    rw [Int.toNat_of_nonneg h1] at this
    exact this
  · refine ⟨_, _, rfl, rfl, h0, _, rfl, _, _, rfl, rfl, hm, ?_⟩
    exact q _ _ (Int.emod_nonneg _ (by omega)) (Int.emod_lt_of_pos _ hm) (same_upd hp)
def sp__law_number (K : PySem.W.Frag) : Sp := fun vs H Q _ => ∃ c k m, vs = [.int c, .int k, .int m] ∧ 0 < m ∧ 0 ≤ k ∧ k ≤ 1000 ∧ ∀ i H', 0 ≤ i → i < m → Same H H' → Q (.int i) H'
def t__law_number (K : PySem.W.Frag) : TS := (tSeq (tAsg (tOp xSub (tVar 0) (tOp xPow (tC (.int 10)) (tC (.int 18)))) (gName 3))
    (tSeq (tFor (iRng1 (tCons (tOp xMod (tVar 1) (tC (.int 24))) tNil)) (gName 4) (tAsg (tOp xDiv (tVar 3) (tC (.int 1009))) (gName 3)))
    (tSeq (tIfS (tTest (tOp xGt (tVar 3) (tC (.int 0)))) (tRet (tOp xMod (tOp xMod (tVar 3) (tC (.int 1009))) (tVar 2))) tNext)
    (tSeq (tAsg (tOp xMod (tVar 0) (tC (.int 1000003))) (gName 5))
    (tRet (tOp xMod (tCall (sp__law_draw K) [] E0 (tCons (tOp xMul (tOp xAdd (tVar 5) (tOp xMul (tC (.int 977)) (tVar 1))) (tOp xAdd (tOp xAdd (tVar 5) (tOp xMul (tC (.int 31)) (tVar 1))) (tC (.int 5)))) (tCons (tOp xAdd (tOp xMod (tVar 1) (tC (.int 9))) (tC (.int 1))) (tCons (tC (.int 999983)) tNil)))) (tVar 2)))))))
theorem len__law_number {K : PySem.W.Frag} (vs : List V) (H : Hp) (Q : VK) (E : XK) (h : sp__law_number K vs H Q E) : vs.length = (["_law_cell", "_law_k", "_law_limit"] : List Str).length := by
  unfold sp__law_number at h
  repeat (first | (obtain ⟨e, _⟩ := h; rw [e]; done) | (obtain ⟨e, _⟩ := h; rw [e]; rfl; done) | obtain ⟨_, h⟩ := h)
theorem pure__law_number {K : PySem.W.Frag} (pf : PF K) {vs : List V} {H : Hp} {Q : VK} {E : XK} (h : sp__law_number K vs H Q E) : t__law_number K { nx := fun _ H' => Q .non H', rt := Q } (start ["_law_cell", "_law_k", "_law_limit", "_law_rest", "_law_turn", "_law_small"] vs) H := by
  obtain ⟨c, k, m, rfl, hm, k0, k1, q⟩ := h
  have kb1 : 0 ≤ k % 24 := Int.emod_nonneg k (by decide)
  have kb2 : k % 24 < 24 := Int.emod_lt_of_pos k (by decide)
  refine ⟨_, rfl, _, _, rfl, rfl, ⟨by decide, by decide, by decide⟩, _, _, rfl, rfl, ?_⟩
  refine ⟨_, rfl, _, _, rfl, rfl, pos24, _, rfl, by omega, by omega, ?_⟩
  refine for_range (fun n σ H1 => H1 = H ∧ ∃ r v4, σ = [some (.int c), some (.int k), some (.int m), some (.int r), v4, none]) ⟨rfl, _, _, rfl⟩ ?_ ?_
  · rintro n σ H1 hn ⟨rfl, r, v4, rfl⟩
    exact ⟨_, rfl, _, _, rfl, rfl, ⟨by decide, by decide⟩, rfl, _, _, rfl⟩
  · rintro σ H1 ⟨rfl, r, v4, rfl⟩
    refine ⟨_, rfl, _, _, rfl, rfl, _, rfl, ?_⟩
    by_cases hr : 0 < r
    · refine iteY (decide_eq_true hr) ?_
      refine ⟨_, rfl, _, _, rfl, rfl, pos1009, _, rfl, _, _, rfl, rfl, hm, ?_⟩
      exact q _ _ (Int.emod_nonneg _ (by omega)) (Int.emod_lt_of_pos _ hm) (Same.refl _)
    · refine iteN (decide_eq_false hr) ?_
      have s1 : 0 ≤ c % 1000003 := Int.emod_nonneg c (by decide)
      have s2 : c % 1000003 < 1000003 := Int.emod_lt_of_pos c (by decide)
      refine ⟨_, rfl, _, _, rfl, rfl, pos1000003, ?_⟩
      refine ⟨_, rfl, _, rfl, _, _, rfl, rfl, .inl (by decide), _, _, rfl, rfl, ?_⟩
      refine ⟨_, rfl, _, rfl, _, _, rfl, rfl, .inl (by decide), _, _, rfl, rfl, _, _, rfl, rfl, ?_⟩
      refine ⟨_, _, rfl, rfl, .inl (by constructor <;> omega), ?_⟩
      refine ⟨_, rfl, _, _, rfl, rfl, pos9, _, _, rfl, rfl, ?_⟩
      refine ⟨_, _, _, rfl, by decide, fun i H2 i0 i1 s3 => ?_⟩
      refine ⟨_, rfl, _, _, rfl, rfl, hm, ?_⟩
      exact q _ _ (Int.emod_nonneg _ (by omega)) (Int.emod_lt_of_pos _ hm) s3
def sp__law_next (K : PySem.W.Frag) : Sp := fun vs H Q _ => ∃ (st a : Addr) (ns : List Int) (by' n : Nat) (m : Int), vs = [.ref st, .int m] ∧ 0 < m ∧ H st = some (.lst [.ref a, .int by', .int n]) ∧ ScrSt K H st a ns ∧
  ∀ i H', 0 ≤ i → i < m → Kp (fun b => b = st) H H' → (∀ b xs, H b = some (.tup xs) → H' b = some (.tup xs)) → H' st = some (.lst [.ref a, .int by', .int (n + 1 : Nat)]) → Q (.int i) H'
def t__law_next (K : PySem.W.Frag) : TS := (tSeq (tAsg (tOp xAdd (tOp (rIxL K) (tVar 0) (tC (.int 2))) (tC (.int 1))) (gSub (tVar 0) (tC (.int 2)) rSetL))
    (tSeq (tAsg (tOp xDiv (tOp (rIxL K) (tVar 0) (tC (.int 2))) (tC (.int 12))) (gName 2))
    (tSeq (tAsg (tOp xAdd (tCall (sp__law_cell_at K) [] E0 (tCons (tOp (rIxL K) (tVar 0) (tC (.int 0))) (tCons (tOp xAdd (tOp (rIxL K) (tVar 0) (tC (.int 1))) (tVar 2)) tNil))) (tOp xMul (tC (.int 31)) (tVar 2))) (gName 3))
    (tRet (tCall (sp__law_number K) [] E0 (tCons (tVar 3) (tCons (tOp xAdd (tOp xMod (tOp (rIxL K) (tVar 0) (tC (.int 2))) (tC (.int 12))) (tC (.int 1))) (tCons (tVar 1) tNil))))))))
theorem len__law_next {K : PySem.W.Frag} (vs : List V) (H : Hp) (Q : VK) (E : XK) (h : sp__law_next K vs H Q E) : vs.length = (["_law_state", "_law_limit"] : List Str).length := by
  unfold sp__law_next at h
  repeat (first | (obtain ⟨e, _⟩ := h; rw [e]; done) | (obtain ⟨e, _⟩ := h; rw [e]; rfl; done) | obtain ⟨_, h⟩ := h)
theorem pure__law_next {K : PySem.W.Frag} (pf : PF K) {vs : List V} {H : Hp} {Q : VK} {E : XK} (h : sp__law_next K vs H Q E) : t__law_next K { nx := fun _ H' => Q .non H', rt := Q } (start ["_law_state", "_law_limit", "_law_at", "_law_cell"] vs) H := by
  obtain ⟨st, a, ns, b, n, m, rfl, hm, hst, hs, q⟩ := h
  refine ⟨_, rfl, st, _, 2, .int (n : Nat), rfl, rfl, SqL.of hst, rfl, _, _, rfl, rfl, _, rfl, st, _, 2, 2, rfl, rfl, hst, rfl, ?_⟩
  have h1 : (upd H st (.lst ([.ref a, .int (b : Nat), .int (n : Nat)].set 2 (.int ((n : Int) + 1))))) st = some (.lst [.ref a, .int (b : Nat), .int (n + 1 : Nat)]) := upd_same
  refine ⟨_, rfl, st, _, 2, .int (n + 1 : Nat), rfl, rfl, SqL.of h1, rfl, _, _, rfl, rfl, ⟨by decide, by decide⟩, ?_⟩
  have hsa := (hs.kp (kp_upd hst (o := .lst ([.ref a, .int (b : Nat), .int (n : Nat)].set 2 (.int ((n : Int) + 1)))))).sq
  refine ⟨_, rfl, st, _, 0, .ref a, rfl, rfl, SqL.of h1, rfl, _, rfl, st, _, 1, .int b, rfl, rfl, SqL.of h1, rfl, _, rfl, _, _, rfl, rfl, ?_⟩
  refine ⟨a, ns, b + (n + 1) / 12, ?_, hsa, ?_⟩
  · rfl
  refine ⟨_, rfl, _, _, rfl, rfl, .inl (by decide), _, _, rfl, rfl, ?_⟩
  refine ⟨_, rfl, _, rfl, st, _, 2, .int (n + 1 : Nat), rfl, rfl, SqL.of h1, rfl, _, _, rfl, rfl, pos12, _, _, rfl, rfl, _, rfl, ?_⟩
  have b1 : 0 ≤ ((n + 1 : Nat) : Int) % 12 := Int.emod_nonneg _ (by decide)
  have b2 : ((n + 1 : Nat) : Int) % 12 < 12 := Int.emod_lt_of_pos _ (by decide)
  refine ⟨_, _, m, rfl, hm, by omega, by omega, fun i H2 i0 i1 s2 => q i H2 i0 i1 ?_ ?_ (s2 _ _ h1)⟩
  · exact fun c o e n => s2 _ _ ((upd_ne n).trans e)
  · exact fun c xs e => s2 _ _ ((upd_ne (ne_lst_tup hst e)).trans e)
end SY

/-! ## Prog, part N: data of numbers, and how they are shown -/
namespace SY
open PySem PySem.Spec PyProof.Rows L2 XB
mutual
def nums : PyData → Bool
  | .none | .bool _ => true
  | .int i => decide (i.natAbs < 10 ^ 22)
  | .str _ => false
  | .list xs | .tuple xs => numsAll xs
  | .dict _ => false
def numsAll : List PyData → Bool
  | [] => true
  | x :: xs => nums x && numsAll xs
end
theorem log_small {n : Nat} (h : n < 10 ^ 22) : n.log2 < 1920 := by
  by_cases h0 : n = 0
  · subst h0
    decide
  · exact (Nat.log2_lt h0).mpr (Nat.lt_of_lt_of_le h (by decide +kernel))
mutual
theorem nums_show : ∀ d : PyData, nums d = true → d.showable = true
  | .none, _ => rfl
  | .bool _, _ => rfl
  | .int i, h => by
    rw [nums] at h
    rw [PyData.showable]
    exact decide_eq_true (log_small (of_decide_eq_true h))
  | .str _, h => rfl
  | .list xs, h => by
    rw [nums] at h
    rw [PyData.showable]
    exact numsAll_show xs h
  | .tuple xs, h => by
    rw [nums] at h
    rw [PyData.showable]
    exact numsAll_show xs h
  | .dict _, h => by
    rw [nums] at h
    cases h
theorem numsAll_show : ∀ ds : List PyData, numsAll ds = true → PyData.showableAll ds = true
  | [], _ => rfl
  | d :: ds, h => by
    rw [numsAll, Bool.and_eq_true] at h
    rw [PyData.showableAll, nums_show d h.1, numsAll_show ds h.2]
    rfl
end
theorem int_short {i : Int} (h : i.natAbs < 10 ^ 22) : (PyData.shown (.int i)).length ≤ 23 := by
  have := int_text_length_le10 (by decide) h
  rw [PyData.shown_int]
  have e : (Str.ofString (toString i)).length = (toString i).length := by
    rw [Str.ofString_eq_toList]
    show ((toString i).toList.map Char.toNat).toArray.size = _
    simp [String.length_toList]
  rw [e]
  exact this
mutual
theorem nums_short : ∀ d : PyData, nums d = true → d.leavesShort 23 = true
  | .none, _ => rfl
  | .bool _, _ => rfl
  | .int i, h => by
    rw [nums] at h
    rw [PyData.leavesShort]
    exact decide_eq_true (int_short (of_decide_eq_true h))
  | .str _, h => by
    rw [nums] at h
    cases h
  | .list xs, h => by
    rw [nums] at h
    rw [PyData.leavesShort]
    exact numsAll_short xs h
  | .tuple xs, h => by
    rw [nums] at h
    rw [PyData.leavesShort]
    exact numsAll_short xs h
  | .dict _, h => by
    rw [nums] at h
    cases h
theorem numsAll_short : ∀ ds : List PyData, numsAll ds = true → PyData.leavesShortAll 23 ds = true
  | [], _ => rfl
  | d :: ds, h => by
    rw [numsAll, Bool.and_eq_true] at h
    rw [PyData.leavesShortAll, nums_short d h.1, numsAll_short ds h.2]
    rfl
end
theorem strOk_app (a b : Str) : PyData.strOk (a ++ b) = (PyData.strOk a && PyData.strOk b) := by
  unfold PyData.strOk
  show (a.cps ++ b.cps).all _ = _
  rw [Array.all_append]
theorem strOk_of (s : String) : PyData.strOk (Str.ofString s) = true := by
  rw [Str.ofString_eq_toList]
  unfold PyData.strOk
  simp only [List.all_toArray, List.all_map, List.all_eq_true]
  intro c _
  have := c.valid
  simp only [Function.comp, decide_eq_true_eq]
  have h2 : c.toNat < 0x110000 := by
    rcases this with h | h
    · show c.val.toNat < _
      omega
    · show c.val.toNat < _
      omega
  exact h2
theorem strOk_textFrom : ∀ (ts : List Str) (k : Nat) (acc : Str), PyData.strOk acc = true → (∀ t ∈ ts, PyData.strOk t = true) → PyData.strOk (textFrom k acc ts) = true
  | [], k, acc, h, _ => h
  | t :: ts, k, acc, h, ht => by
    rw [textFrom]
    refine strOk_textFrom ts (k + 1) _ ?_ fun t h => ht t (List.mem_cons_of_mem _ h)
    rw [strOk_app, strOk_app, h, ht t List.mem_cons_self, strOk_of]
    rfl
theorem strOk_join : ∀ ts : List Str, (∀ t ∈ ts, PyData.strOk t = true) → PyData.strOk (Str.join ", " ts) = true
  | [], _ => by
    show PyData.strOk Str.empty = true
    unfold PyData.strOk Str.empty
    simp
  | [x], h => h x List.mem_cons_self
  | x :: y :: r, h => by
    show PyData.strOk (x ++ ", " ++ Str.join ", " (y :: r)) = true
    rw [strOk_app, strOk_app, h x List.mem_cons_self, strOk_join (y :: r) fun t ht => h t (List.mem_cons_of_mem _ ht), strOk_of]
    rfl
mutual
theorem nums_text : ∀ d : PyData, nums d = true → PyData.strOk d.shown = true
  | .none, _ => by
    rw [PyData.shown_none]
    exact strOk_of _
  | .bool b, _ => by
    rw [PyData.shown_bool]
    split <;> exact strOk_of _
  | .int i, _ => by
    rw [PyData.shown_int]
    exact strOk_of _
  | .str _, h => by
    rw [nums] at h
    cases h
  | .list xs, h => by
    rw [nums] at h
    rw [PyData.shown_list]
    rw [strOk_app, strOk_app, strOk_join _ (numsAll_text xs h), strOk_of, strOk_of]
    rfl
  | .tuple xs, h => by
    rw [nums] at h
    rw [PyData.shown_tuple]
    rw [strOk_app, strOk_app, strOk_join _ (numsAll_text xs h), strOk_of, strOk_of]
    rfl
  | .dict _, h => by
    rw [nums] at h
    cases h
theorem numsAll_text : ∀ ds : List PyData, numsAll ds = true → ∀ t ∈ PyData.shownAll ds, PyData.strOk t = true
  | [], _, t, ht => by
    rw [PyData.shownAll_nil] at ht
    cases ht
  | d :: ds, h, t, ht => by
    rw [numsAll, Bool.and_eq_true] at h
    rw [PyData.shownAll_cons, List.mem_cons] at ht
    rcases ht with rfl | ht
    · exact nums_text d h.1
    · exact numsAll_text ds h.2 t ht
end
/-- numbers only, not too deep, not too much -/
structure Fit (d : PyData) (k c : Nat) : Prop where
  nu : nums d = true
  de : d.depth ≤ k
  bu : d.bulk ≤ c
theorem Fit.int {i : Int} (h : i.natAbs < 10 ^ 22) : Fit (.int i) 0 0 := ⟨by rw [nums]; exact decide_eq_true h, Nat.le_refl _, Nat.le_refl _⟩
theorem Fit.none : Fit .none 0 0 := ⟨rfl, Nat.le_refl _, Nat.le_refl _⟩
theorem Fit.bool (b : Bool) : Fit (.bool b) 0 0 := ⟨rfl, Nat.le_refl _, Nat.le_refl _⟩
theorem Fit.mono {d : PyData} {k c k' c' : Nat} (h : Fit d k c) (hk : k ≤ k') (hc : c ≤ c') : Fit d k' c' := ⟨h.nu, Nat.le_trans h.de hk, Nat.le_trans h.bu hc⟩
theorem fit_all {k c : Nat} : ∀ {ds : List PyData}, (∀ d ∈ ds, Fit d k c) → numsAll ds = true ∧ PyData.depthAll ds ≤ k ∧ PyData.bulkAll ds ≤ ds.length * (c + 1)
  | [], _ => ⟨rfl, Nat.zero_le _, Nat.zero_le _⟩
  | d :: ds, h => by
    obtain ⟨a1, a2, a3⟩ := fit_all fun x hx => h x (List.mem_cons_of_mem _ hx)
    have h0 := h d List.mem_cons_self
    refine ⟨by rw [numsAll, h0.nu, a1]; rfl, ?_, ?_⟩
    · rw [PyData.depthAll]
      exact Nat.max_le.mpr ⟨h0.de, a2⟩
    · have := h0.bu
      rw [PyData.bulkAll, List.length_cons, Nat.add_mul, Nat.one_mul]
      omega
theorem Fit.list {k c n : Nat} {ds : List PyData} (h : ∀ d ∈ ds, Fit d k c) (hn : ds.length ≤ n) : Fit (.list ds) (k + 1) (n * (c + 1)) := by
  obtain ⟨a1, a2, a3⟩ := fit_all h
  refine ⟨by rw [nums]; exact a1, ?_, ?_⟩
  · rw [PyData.depth]
    omega
  · rw [PyData.bulk]
    exact Nat.le_trans a3 (Nat.mul_le_mul_right _ hn)
theorem Fit.tuple {k c n : Nat} {ds : List PyData} (h : ∀ d ∈ ds, Fit d k c) (hn : ds.length ≤ n) : Fit (.tuple ds) (k + 1) (n * (c + 1)) := by
  obtain ⟨a1, a2, a3⟩ := fit_all h
  refine ⟨by rw [nums]; exact a1, ?_, ?_⟩
  · rw [PyData.depth]
    omega
  · rw [PyData.bulk]
    exact Nat.le_trans a3 (Nat.mul_le_mul_right _ hn)
theorem Fit.len {d : PyData} {k c : Nat} (h : Fit d k c) (hc : c ≤ 600000) : d.shown.length ≤ sizeLine := by
  have := PyData.shown_le_bulk 23 (by decide) d (nums_short d h.nu)
  have hb := h.bu
  have : d.shown.length ≤ 16000000 := by omega
  exact sz_ok this
/-- what str(v) asks -/
theorem Fit.str {K : PySem.W.Frag} {H : Hp} {v : V} {d : PyData} {k c : Nat} {Q : VK} (h : Fit d k c) (hd : Dp K H v d) (hb : ∀ b, v ≠ .bl b) (hk : k ≤ 60) (hc : c ≤ 600000) (q : Q (.str d.shown) H) : rStr K [v] H Q := by
  refine ⟨v, d, rfl, hd, ?_, hb, nums_show d h.nu, Nat.le_trans h.de hk, h.len hc, q⟩
  · rintro x rfl
    cases hd
    have := h.nu
    rw [nums] at this
    cases this
theorem Fit.three {a b e : PyData} {k c1 c2 c3 : Nat} (h1 : Fit a k c1) (h2 : Fit b k c2) (h3 : Fit e k c3) : Fit (.list [a, b, e]) (k + 1) (c1 + c2 + c3 + 3) := by
  have d1 := h1.de
  have d2 := h2.de
  have d3 := h3.de
  have b1 := h1.bu
  have b2 := h2.bu
  have b3 := h3.bu
  refine ⟨?_, ?_, ?_⟩
  · rw [nums, numsAll, numsAll, numsAll, numsAll, h1.nu, h2.nu, h3.nu]
    rfl
  · rw [PyData.depth, PyData.depthAll, PyData.depthAll, PyData.depthAll, PyData.depthAll]
    omega
  · rw [PyData.bulk, PyData.bulkAll, PyData.bulkAll, PyData.bulkAll, PyData.bulkAll]
    omega
end SY

/-! ## Prog, part O: how big numbers grow -/
namespace SY
open PySem PySem.Spec PyProof.Rows L2 XB
structure Sto.Nm (s : Sto) (N P : Nat) : Prop where
  fr : ∀ f ∈ s.frs, f.num.natAbs ≤ N
  rq : ∀ r ∈ s.q.row, ∀ p, r.w = some p → p.2.natAbs ≤ N
  cn : ∀ r ∈ s.q.row, 0 ≤ r.cnt
  put : 0 ≤ s.q.put ∧ s.q.put ≤ P
  lots : ∀ lot ∈ s.d.lots, ∀ p ∈ lot, p.2.natAbs ≤ N
  sure : ∀ x ∈ s.d.sure, x.natAbs ≤ N
  arm : 0 ≤ s.q.arm ∧ s.q.arm < 40
theorem Sto.Nm.mono {s : Sto} {N P P' : Nat} (h : s.Nm N P) (hP : P ≤ P') : s.Nm N P' := { h with put := ⟨h.put.1, by have := h.put.2; omega⟩ }
theorem setP_all {N : Nat} : ∀ (ps : List (Int × Int)) {l : List Int}, (∀ x ∈ l, x.natAbs ≤ N) → (∀ p ∈ ps, p.2.natAbs ≤ N) → ∀ x ∈ ps.foldl setP l, x.natAbs ≤ N
  | [], l, h, _, x, hx => h x hx
  | p :: ps, l, h, hp, x, hx => by
    refine setP_all ps (l := setP l p) (fun y hy => ?_) (fun q hq => hp q (List.mem_cons_of_mem _ hq)) x hx
    unfold setP at hy
    rcases List.mem_or_eq_of_mem_set hy with hy | rfl
    · exact h y hy
    · exact hp p List.mem_cons_self
theorem shown_all {s : Dsk} {N : Nat} (h1 : ∀ x ∈ s.sure, x.natAbs ≤ N) (h2 : ∀ lot ∈ s.lots, ∀ p ∈ lot, p.2.natAbs ≤ N) : ∀ x ∈ s.shown, x.natAbs ≤ N := by
  refine setP_all _ h1 fun p hp => ?_
  rw [List.take_length] at hp
  obtain ⟨lot, hl, hq⟩ := List.mem_flatten.mp hp
  exact h2 lot hl p hq
theorem nm_frs {s : Sto} {N P : Nat} {frs : List Fra} (h : s.Nm N P) (hs : ∀ f ∈ frs, f.num.natAbs ≤ N) : ({ s with frs := frs } : Sto).Nm N P := { h with fr := hs }
theorem nm_put {s : Sto} {N P : Nat} {w : Option (Int × Int)} (h : s.Nm N P) (hw : ∀ p, w = some p → p.2.natAbs ≤ N) : ({ s with q := s.q.put1 w } : Sto).Nm N (P + 1) := by
  have hp := h.put
  refine { h with rq := ?_, cn := ?_, put := ?_ }
  · intro r hr p e
    simp only [Que.put1, List.mem_append, List.mem_singleton] at hr
    rcases hr with hr | rfl
    · exact h.rq r hr p e
    · exact hw p e
  · intro r hr
    simp only [Que.put1, List.mem_append, List.mem_singleton] at hr
    rcases hr with hr | rfl
    · exact h.cn r hr
    · exact hp.1
  · show 0 ≤ s.q.put + 1 ∧ s.q.put + 1 ≤ ((P + 1 : Nat) : Int)
    omega
theorem nm_clean {s : Sto} {N P : Nat} (h : s.Nm N P) (i : Nat) : (s.clean i).Nm N (P + 1) := by
  unfold Sto.clean
  cases e : s.frs[i]? with
  | none => exact h.mono (by omega)
  | some f =>
    have hm := List.mem_of_getElem? e
    refine nm_frs (s := { s with q := s.q.put1 (some (f.room, f.num)) }) (nm_put h ?_) ?_
    · rintro p hp
      cases hp
      exact h.fr f hm
    · intro g hg
      rcases List.mem_or_eq_of_mem_set hg with hg | rfl
      · exact h.fr g hg
      · exact h.fr f hm
theorem nm_leave {s : Sto} {N P : Nat} (h : s.Nm N P) : s.leave.Nm N (P + 1) := by
  unfold Sto.leave
  split
  · exact (nm_frs h fun f hf => h.fr f (mem_others hf)).mono (by omega)
  · split
    · exact h.mono (by omega)
    · exact nm_frs (nm_clean h 0) fun f hf => (nm_clean h 0).fr f (mem_others hf)
theorem nm_mid {s : Sto} {N P : Nat} (h : s.Nm N P) (room : Int) : (s.mid room).Nm N (P + 1) := by
  unfold Sto.mid
  split
  · split
    · exact nm_leave h
    · exact h.mono (by omega)
  · exact h.mono (by omega)
theorem nm_look {s : Sto} {N P : Nat} (h : s.Nm N P) (room : Int) : (s.look room).natAbs ≤ N := by
  unfold Sto.look
  split
  · cases e : s.d.shown[room.toNat]? with
    | none => exact Nat.zero_le _
    | some x => exact shown_all h.sure h.lots x (List.mem_of_getElem? e)
  · rename_i r hr
    have hm := List.mem_of_getLast? hr
    unfold Que.mine at hm
    have hm := (List.mem_filter.mp hm).1
    cases e : r.w with
    | none => exact Nat.zero_le _
    | some p => exact h.rq r hm p e
theorem nm_use {s : Sto} {N P : Nat} (h : s.Nm N P) (room : Int) : (s.use room).Nm N (P + 1) := by
  have hm := nm_mid h room
  unfold Sto.use
  refine nm_frs hm fun f hf => ?_
  rcases List.mem_append.mp hf with z | z
  · exact hm.fr f (mem_others z)
  · unfold Sto.found at z
    split at z
    · rw [List.mem_singleton] at z
      subst z
      exact nm_look hm room
    · exact h.fr f (List.mem_filter.mp z).1
theorem nm_mark {s : Sto} {N P : Nat} (h : s.Nm N P) (k : Nat) {num : Int} (hn : num.natAbs ≤ N) : (s.mark k num).Nm N P := by
  unfold Sto.mark
  split
  · exact h
  · refine nm_frs h fun g hg => ?_
    rcases List.mem_or_eq_of_mem_set hg with hg | rfl
    · exact h.fr g hg
    · exact hn
theorem nm_write {s : Sto} {N P : Nat} (h : s.Nm N P) (room : Int) {num : Int} (hn : num.natAbs ≤ N) : (s.write room num).Nm N (P + 2) := by
  have := nm_mark (nm_use h room) (s.useIx room) hn
  unfold Sto.write
  split
  · exact nm_clean this _
  · exact Sto.Nm.mono this (by omega)
theorem nm_wash1 {s : Sto} {N P : Nat} (h : s.Nm N P) (i : Nat) : (s.wash1 i).Nm N (P + 1) := by
  unfold Sto.wash1
  split
  · exact h.mono (by omega)
  · split
    · exact nm_clean h i
    · exact h.mono (by omega)
theorem nm_washed : ∀ (l : List Nat) {s : Sto} {N P : Nat}, s.Nm N P → (l.foldl Sto.wash1 s).Nm N (P + l.length)
  | [], s, N, P, h => h
  | i :: l, s, N, P, h => by
    have := nm_washed l (nm_wash1 h i)
    rw [List.foldl_cons, List.length_cons]
    exact this.mono (by omega)
theorem nm_order {s : Sto} {N P B : Nat} (h : s.Nm N P) (ok : s.Ok B) : s.order.Nm N (P + 9) := by
  have h1 := nm_washed s.turns h
  rw [turns_len] at h1
  have := ok.nf
  have := ok.mf
  exact (nm_put h1 (fun p hp => by cases hp)).mono (by omega)
theorem nm_serve {s : Sto} {N P B : Nat} (h : s.Nm N P) (ok : s.Ok B) (hne : s.q.row ≠ []) : s.serve.Nm N P := by
  obtain ⟨r, hr, e, _⟩ := serve_eq hne
  rw [e]
  have hm := List.mem_of_getElem? hr
  have sub : ∀ o ∈ (s.q.served r).row, ∃ o' ∈ s.q.row, o.cnt = o'.cnt ∧ o.w = o'.w := by
    intro o ho
    unfold Que.served at ho
    obtain ⟨o', ho', rfl⟩ := List.mem_map.mp ho
    exact ⟨o', (List.mem_filter.mp ho').1, rfl, rfl⟩
  obtain ⟨e1, e2⟩ := take_sure s.d r
  refine ⟨h.fr, ?_, ?_, h.put, ?_, ?_, ?_⟩
  · intro o ho p hp
    obtain ⟨o', h1, _, h2⟩ := sub o ho
    exact h.rq o' h1 p (h2 ▸ hp)
  · intro o ho
    obtain ⟨o', h1, h2, _⟩ := sub o ho
    rw [h2]
    exact h.cn o' h1
  · dsimp only
    unfold Dsk.take
    split
    · intro lot hl p hp
      unfold Dsk.barrier at hl
      simp only [List.mem_append, List.mem_singleton] at hl
      rcases hl with hl | rfl
      · exact h.lots lot hl p hp
      · simp at hp
    · rename_i w hw
      intro lot hl p hp
      unfold Dsk.write at hl
      rcases mem_addLast hl hp with ⟨l, h1, h2⟩ | rfl
      · exact h.lots l h1 p h2
      · exact h.rq r hm w hw
  · dsimp only
    rw [e1]
    exact h.sure
  · show 0 ≤ (s.q.served r).arm ∧ (s.q.served r).arm < 40
    unfold Que.served
    dsimp only
    have sz := ok.size
    split
    · exact h.arm
    · rename_i p hp
      have := ok.rq r hm p hp
      omega
theorem nm_drain : ∀ (n : Nat) {s : Sto} {N P B : Nat}, s.Nm N P → s.Ok B → n ≤ s.q.row.length → (drain n s).Nm N P
  | 0, s, N, P, B, h, _, _ => h
  | n + 1, s, N, P, B, h, ok, hn => by
    have hne : s.q.row ≠ [] := fun z => by
      rw [z] at hn
      simp at hn
    obtain ⟨h1, h2⟩ := serve_ok ok hne
    exact nm_drain n (nm_serve h ok hne) h1 (by omega)
theorem nm_sync {s : Sto} {N P B : Nat} (h : s.Nm N P) (ok : s.Ok B) : s.sync.Nm N (P + 9) := by
  have h1 := nm_drain _ (nm_order h ok) (order_ok ok) (Nat.le_refl _)
  exact { h1 with
    lots := fun lot hl p hp => by
      simp only [Sto.sync, Dsk.flush, List.mem_singleton] at hl
      subst hl
      simp at hp
    sure := shown_all h1.sure h1.lots }
theorem cnts_all : ∀ (n : Nat) {s : Sto} {N P B : Nat}, s.Nm N P → s.Ok B → n ≤ s.q.row.length → ∀ c ∈ cnts n s, c.natAbs ≤ P
  | 0, s, N, P, B, _, _, _, c, hc => by cases hc
  | n + 1, s, N, P, B, h, ok, hn, c, hc => by
    have hne : s.q.row ≠ [] := fun z => by
      rw [z] at hn
      simp at hn
    obtain ⟨h1, h2⟩ := serve_ok ok hne
    rw [cnts, List.mem_cons] at hc
    rcases hc with rfl | hc
    · obtain ⟨r, hr, _, e⟩ := serve_eq hne
      have hm := List.mem_of_getElem? hr
      have a1 := h.cn r hm
      have a2 := ok.ctr r hm
      have a3 := h.put
      rw [e]
      omega
    · exact cnts_all n (nm_serve h ok hne) h1 (by omega) c hc
end SY

/-! ## Prog, part P: drawn deeds -/
namespace SY
open PySem PySem.Spec PyProof.Rows L2 XB
inductive Dd where
  | read (r : Int)
  | write (r n : Int)
  | order
  | idle (m : Nat)
  | sync
def Dd.word : Dd → Str
  | .read _ => "read"
  | .write _ _ => "write"
  | .order => "order"
  | .idle _ => "idle"
  | .sync => "sync"
def Dd.one : Dd → Int
  | .read r => r
  | .write r _ => r
  | .order => 0
  | .idle m => m
  | .sync => 1
def Dd.other : Dd → Int
  | .write _ n => n
  | _ => 0
def Dd.Ok (rooms : Int) : Dd → Prop
  | .read r => 0 ≤ r ∧ r < rooms
  | .write r n => 0 ≤ r ∧ r < rooms ∧ n.natAbs ≤ 10 ^ 21
  | .idle m => m ≤ 3
  | _ => True
def Sto.act (s : Sto) : Dd → Sto
  | .read r => s.use r
  | .write r n => s.write r n
  | .order => s.order
  | .idle m => drain (min m s.q.row.length) s
  | .sync => s.sync
def Sto.tell (s : Sto) : Dd → PyData
  | .read r => .int (s.val r)
  | .idle m => .list ((cnts (min m s.q.row.length) s).map .int)
  | _ => .none
/-- the state of the draws -/
def DrawAt (H : Hp) (st a : Addr) (b n : Nat) : Prop := H st = some (.lst [.ref a, .int b, .int n])
def nums6 : List Int := [1, 2, 3, -5, 10 ^ 20, 7]
theorem num6 (i : Int) (h0 : 0 ≤ i) (h1 : i < 6) : ∃ n, atI (nums6.map V.int) i = some (.int n) ∧ n.natAbs ≤ 10 ^ 20 := by
  have : ∀ j : Fin 6, ∃ n, nums6[j.val]? = some n ∧ n.natAbs ≤ 10 ^ 20 := by decide +kernel
  obtain ⟨n, e, hn⟩ := this ⟨i.toNat, by omega⟩
  refine ⟨n, ?_, hn⟩
  have hh : (nums6.map V.int)[i.toNat]? = some (.int n) := by
    rw [List.getElem?_map, e]
    rfl
  have := atI_of hh
  rw [Int.toNat_of_nonneg h0] at this
  exact this
theorem kp_none {A : Addr → Prop} {H H' : Hp} {t : Addr} {o : HO} {st : Addr} (k : Kp (fun b => b = st) H H') (hst : H' st = some o) (h : H' t = none) : H t = none := by
  cases e : H t with
  | none => rfl
  | some u =>
    by_cases z : t = st
    · rw [z, hst] at h
      cases h
    · rw [k _ _ e z] at h
      cases h
def sp__law_deed (K : PySem.W.Frag) : Sp := fun vs H Q _ => ∃ (st a : Addr) (ns : List Int) (b n : Nat) (rooms : Int), vs = [.ref st, .int rooms] ∧ 0 < rooms ∧ DrawAt H st a b n ∧ ScrSt K H st a ns ∧
  ∀ t d n' H', d.Ok rooms → Kp (fun b => b = st) H H' → (∀ b xs, H b = some (.tup xs) → H' b = some (.tup xs)) → DrawAt H' st a b n' → H t = none → H' t = some (.tup [.str (Dd.word d), .int d.one, .int d.other]) → Q (.ref t) H'
def t__law_deed (K : PySem.W.Frag) : TS := (tSeq (tAsg (tCall (sp__law_next K) [] E0 (tCons (tVar 0) (tCons (tC (.int 12)) tNil))) (gName 2))
    (tSeq (tIfS (tTest (tOp xLt (tVar 2) (tC (.int 3)))) (tRet (tTup (tCons (tC (.str "read")) (tCons (tCall (sp__law_next K) [] E0 (tCons (tVar 0) (tCons (tVar 1) tNil))) (tCons (tC (.int 0)) tNil))))) tNext)
    (tSeq (tIfS (tTest (tOp xLt (tVar 2) (tC (.int 8)))) (tRet (tTup (tCons (tC (.str "write")) (tCons (tCall (sp__law_next K) [] E0 (tCons (tVar 0) (tCons (tVar 1) tNil))) (tCons (tOp xAdd (tOp (rIxT K) (tTup (tCons (tC (.int 1)) (tCons (tC (.int 2)) (tCons (tC (.int 3)) (tCons (tUn xNeg (tC (.int 5))) (tCons (tOp xPow (tC (.int 10)) (tC (.int 20))) (tCons (tC (.int 7)) tNil))))))) (tCall (sp__law_next K) [] E0 (tCons (tVar 0) (tCons (tC (.int 6)) tNil)))) (tCall (sp__law_next K) [] E0 (tCons (tVar 0) (tCons (tC (.int 2)) tNil)))) tNil))))) tNext)
    (tSeq (tIfS (tTest (tOp rEq (tVar 2) (tC (.int 8)))) (tRet (tTup (tCons (tC (.str "order")) (tCons (tC (.int 0)) (tCons (tC (.int 0)) tNil))))) tNext)
    (tRet (tIf (tTest (tOp xLt (tVar 2) (tC (.int 11)))) (tTup (tCons (tC (.str "idle")) (tCons (tCall (sp__law_next K) [] E0 (tCons (tVar 0) (tCons (tC (.int 4)) tNil))) (tCons (tC (.int 0)) tNil)))) (tTup (tCons (tIf (tTest (tOp rEq (tCall (sp__law_next K) [] E0 (tCons (tVar 0) (tCons (tC (.int 3)) tNil))) (tC (.int 0)))) (tC (.str "sync")) (tC (.str "idle"))) (tCons (tC (.int 1)) (tCons (tC (.int 0)) tNil))))))))))
theorem len__law_deed {K : PySem.W.Frag} (vs : List V) (H : Hp) (Q : VK) (E : XK) (h : sp__law_deed K vs H Q E) : vs.length = (["_law_state", "_law_rooms"] : List Str).length := by
  unfold sp__law_deed at h
  repeat (first | (obtain ⟨e, _⟩ := h; rw [e]; done) | (obtain ⟨e, _⟩ := h; rw [e]; rfl; done) | obtain ⟨_, h⟩ := h)
theorem pure__law_deed {K : PySem.W.Frag} (pf : PF K) {vs : List V} {H : Hp} {Q : VK} {E : XK} (h : sp__law_deed K vs H Q E) : t__law_deed K { nx := fun _ H' => Q .non H', rt := Q } (start ["_law_state", "_law_rooms", "_law_sort"] vs) H := by
  obtain ⟨st, a, ns, b, n, rooms, rfl, hr, hst, hs, q⟩ := h
  refine ⟨_, rfl, st, a, ns, b, n, 12, rfl, by decide, hst, hs, fun i H1 i0 i1 k1 t1 d1 => ?_⟩
  have hs1 := hs.kp k1
  -- the tuple at the end
  have fin : ∀ d H2 n2, Dd.Ok rooms d → Kp (fun b => b = st) H H2 → (∀ b xs, H b = some (.tup xs) → H2 b = some (.tup xs)) → DrawAt H2 st a b n2 → ∀ t, H2 t = none → Q (.ref t) (upd H2 t (.tup [.str d.word, .int d.one, .int d.other])) := by
    intro d H2 n2 hd k2 t2 d2 t ht
    have htH : H t = none := kp_none (A := fun _ => False) k2 d2 ht
    refine q t d n2 _ hd (k2.upd (.inr htH)) (fun b xs e => ?_) ?_ htH upd_same
    · rw [upd_ne (ne_of_none (t2 b xs e) ht)]
      exact t2 b xs e
    · show upd _ t _ st = _
      rw [upd_ne (ne_of_none d2 ht)]
      exact d2
  refine ⟨_, rfl, _, _, rfl, rfl, _, rfl, ?_⟩
  by_cases c1 : i < 3
  · refine iteY (decide_eq_true c1) ?_
    refine ⟨_, rfl, _, rfl, st, a, ns, b, n + 1, rooms, rfl, hr, d1, hs1, fun r H2 r0 r1 k2 t2 d2 => ?_⟩
    exact ⟨of_decide_eq_true rfl, fun t ht => fin (.read r) H2 _ ⟨r0, r1⟩ (k1.trans k2) (fun b xs e => t2 b xs (t1 b xs e)) d2 t ht⟩
  refine iteN (decide_eq_false c1) ?_
  refine ⟨_, rfl, _, _, rfl, rfl, _, rfl, ?_⟩
  by_cases c2 : i < 8
  · refine iteY (decide_eq_true c2) ?_
    refine ⟨_, rfl, _, rfl, st, a, ns, b, n + 1, rooms, rfl, hr, d1, hs1, fun r H2 r0 r1 k2 t2 d2 => ?_⟩
    have hs2 := hs1.kp k2
    refine ⟨_, rfl, _, _, rfl, rfl, ⟨by decide, by decide, by decide⟩, of_decide_eq_true rfl, fun u hu => ?_⟩
    have u2 := same_upd (o := .tup [.int 1, .int 2, .int 3, .int (-5), .int (10 ^ (20 : Int).toNat), .int 7]) hu
    have hs3 := hs2.same u2
    refine ⟨_, rfl, st, a, ns, b, n + 2, 6, rfl, by decide, u2 _ _ d2, hs3, fun j H3 j0 j1 k3 t3 d3 => ?_⟩
    obtain ⟨num, hnum, hb⟩ := num6 j j0 j1
    refine ⟨u, nums6.map V.int, j, .int num, rfl, rfl, SqT.of (t3 _ _ upd_same), hnum, ?_⟩
    have hs4 := hs3.kp k3
    refine ⟨_, rfl, st, a, ns, b, n + 3, 2, rfl, by decide, d3, hs4, fun j2 H4 j20 j21 k4 t4 d4 => ?_⟩
    refine ⟨_, _, rfl, rfl, of_decide_eq_true rfl, fun t ht => ?_⟩
    refine fin (.write r (num + j2)) H4 _ ⟨r0, r1, by omega⟩ (k1.trans (k2.trans ((Kp.same u2).trans (k3.trans k4)))) (fun b xs e => t4 b xs (t3 b xs (u2 _ _ (t2 b xs (t1 b xs e))))) d4 t ht
  refine iteN (decide_eq_false c2) ?_
  refine ⟨_, rfl, rfl, _, rfl, ?_⟩
  by_cases c3 : i = 8
  · subst c3
    refine iteT ?_
    exact ⟨of_decide_eq_true rfl, fun t ht => fin .order H1 _ trivial k1 t1 d1 t ht⟩
  refine iteN (by rw [rooms_bl2]; exact decide_eq_false c3) ?_
  refine ⟨_, rfl, _, _, rfl, rfl, _, rfl, ?_⟩
  by_cases c4 : i < 11
  · refine iteY (decide_eq_true c4) ?_
    refine ⟨_, rfl, st, a, ns, b, n + 1, 4, rfl, by decide, d1, hs1, fun m H2 m0 m1 k2 t2 d2 => ?_⟩
    refine ⟨of_decide_eq_true rfl, fun t ht => ?_⟩
    have := fin (.idle m.toNat) H2 _ (show m.toNat ≤ 3 by omega) (k1.trans k2) (fun b xs e => t2 b xs (t1 b xs e)) d2 t ht
    have e : (Dd.idle m.toNat).one = m := Int.toNat_of_nonneg m0
    rw [e] at this
    exact this
  refine iteN (decide_eq_false c4) ?_
  refine ⟨_, rfl, st, a, ns, b, n + 1, 3, rfl, by decide, d1, hs1, fun m H2 m0 m1 k2 t2 d2 => ?_⟩
  refine ⟨rfl, _, rfl, ?_⟩
  by_cases c5 : m = 0
  · subst c5
    refine iteT ?_
    exact ⟨of_decide_eq_true rfl, fun t ht => fin .sync H2 _ trivial (k1.trans k2) (fun b xs e => t2 b xs (t1 b xs e)) d2 t ht⟩
  · refine iteN (by rw [rooms_bl2]; exact decide_eq_false c5) ?_
    exact ⟨of_decide_eq_true rfl, fun t ht => fin (.idle 1) H2 _ (show 1 ≤ 3 by decide) (k1.trans k2) (fun b xs e => t2 b xs (t1 b xs e)) d2 t ht⟩
theorem act_ok {s : Sto} {B : Nat} {d : Dd} (h : s.Ok B) (hd : d.Ok s.d.sure.length) : (s.act d).Ok (B + 9) := by
  cases d with
  | read r => exact (use_ok h hd.1 hd.2).mono (by omega)
  | write r n => exact (write_ok h hd.1 hd.2.1 n).mono (by omega)
  | order => exact order_ok h
  | idle m => exact (drain_ok _ h (Nat.min_le_right _ _)).1.mono (by omega)
  | sync => exact sync_ok h
theorem act_nm {s : Sto} {N P B : Nat} {d : Dd} (h : s.Nm N P) (ok : s.Ok B) (hd : d.Ok s.d.sure.length) (hN : 10 ^ 21 ≤ N) : (s.act d).Nm N (P + 9) := by
  cases d with
  | read r => exact (nm_use h r).mono (by omega)
  | write r n => exact (nm_write h r (Nat.le_trans hd.2.2 hN)).mono (by omega)
  | order => exact nm_order h ok
  | idle m => exact (nm_drain _ h ok (Nat.min_le_right _ _)).mono (by omega)
  | sync => exact nm_sync h ok
theorem write_sure (s : Sto) (room num : Int) : (s.write room num).d = s.d := by
  have e : (s.marked room num).d = s.d := by
    unfold Sto.marked Sto.mark
    split
    · exact mid_d s room
    · exact mid_d s room
  unfold Sto.write
  split
  · rw [(clean_d _ _).1, e]
  · exact e
theorem drain_sure : ∀ (n : Nat) (s : Sto), (drain n s).d.sure = s.d.sure
  | 0, s => rfl
  | n + 1, s => by
    rw [drain, drain_sure n s.serve]
    unfold Sto.serve
    split
    · rfl
    · exact (take_sure _ _).1
theorem act_rooms (s : Sto) (d : Dd) : (s.act d).d.sure.length = s.d.sure.length := by
  cases d with
  | read r =>
    show (s.mid r).d.sure.length = _
    rw [mid_d]
  | write r n => rw [Sto.act, write_sure]
  | order =>
    show s.washed.d.sure.length = _
    unfold Sto.washed
    rw [(washed_d _ _).1]
  | idle m => rw [Sto.act, drain_sure]
  | sync =>
    show s.order.drained.d.shown.length = _
    rw [Dsk.shown_len]
    unfold Sto.drained
    rw [drain_sure]
    show s.washed.d.sure.length = _
    unfold Sto.washed
    rw [(washed_d _ _).1]
theorem val_nm {s : Sto} {N P : Nat} (h : s.Nm N P) (room : Int) : (s.val room).natAbs ≤ N := by
  unfold Sto.val
  cases e : (s.use room).frs[s.useIx room]? with
  | none => exact Nat.zero_le _
  | some f => exact (nm_use h room).fr f (List.mem_of_getElem? e)
theorem tell_fit {s : Sto} {N P B : Nat} {d : Dd} (h : s.Nm N P) (ok : s.Ok B) (hd : d.Ok s.d.sure.length) (hN : N < 10 ^ 22) (hP : P < 10 ^ 22) : Fit (s.tell d) 1 999 := by
  cases d with
  | read r => exact (Fit.int (Nat.lt_of_le_of_lt (val_nm h r) hN)).mono (by omega) (by omega)
  | write r n => exact Fit.none.mono (by omega) (by omega)
  | order => exact Fit.none.mono (by omega) (by omega)
  | sync => exact Fit.none.mono (by omega) (by omega)
  | idle m =>
    refine (Fit.list (k := 0) (c := 0) (n := 999) (fun x hx => ?_) ?_).mono (by omega) (by omega)
    · obtain ⟨c, hc, rfl⟩ := List.mem_map.mp hx
      exact Fit.int (Nat.lt_of_le_of_lt (cnts_all _ h ok (Nat.min_le_right _ _) c hc) hP)
    · rw [List.length_map, cnts_len]
      have : m ≤ 3 := hd
      omega
theorem set_same {α β : Type} {f : α → β} {xs : List α} {i : Nat} {x y : α} (h : xs[i]? = some x) (e : f y = f x) : (xs.set i y).map f = xs.map f := by
  refine List.ext_getElem? fun j => ?_
  rw [List.getElem?_map, List.getElem?_map, List.getElem?_set]
  by_cases z : i = j
  · subst z
    have := (List.getElem?_eq_some_iff.mp h).1
    rw [if_pos rfl, if_pos this, h]
    simp [e]
  · rw [if_neg z]
/-! ### several stores side by side -/
def foots (Ls : List SL) : List Addr := (Ls.map SL.foot).flatten
structure Stos (K : PySem.W.Frag) (H : Hp) (Ls : List SL) (ss : List Sto) : Prop where
  at_ : All2 (StoAt K H) Ls ss
  nd : (foots Ls).Nodup
theorem foots_mem {Ls : List SL} {L : SL} {b : Addr} (h : L ∈ Ls) (hb : b ∈ L.foot) : b ∈ foots Ls := List.mem_flatten.mpr ⟨L.foot, List.mem_map.mpr ⟨L, h, rfl⟩, hb⟩
theorem mem_foots {Ls : List SL} {b : Addr} (h : b ∈ foots Ls) : ∃ L ∈ Ls, b ∈ L.foot := by
  obtain ⟨l, hl, hb⟩ := List.mem_flatten.mp h
  obtain ⟨L, hL, rfl⟩ := List.mem_map.mp hl
  exact ⟨L, hL, hb⟩
theorem Stos.same {K : PySem.W.Frag} {H H' : Hp} {Ls : List SL} {ss : List Sto} (h : Stos K H Ls ss) (s : Same H H') : Stos K H' Ls ss := ⟨h.at_.imp fun L t _ _ r => r.same s, h.nd⟩
theorem Stos.step {K : PySem.W.Frag} {H H' : Hp} {Ls : List SL} {ss : List Sto} {A A' : List Addr} (h : Stos K H Ls ss) (k : Step A A' H H') (no : ∀ b, b ∈ foots Ls → b ∉ A) : Stos K H' Ls ss :=
  ⟨h.at_.imp fun L t hL _ r => r.step k fun b hb => no b (foots_mem hL hb), h.nd⟩
theorem Stos.has {K : PySem.W.Frag} {H : Hp} {Ls : List SL} {ss : List Sto} (h : Stos K H Ls ss) {b : Addr} (hb : b ∈ foots Ls) : H b ≠ none := by
  obtain ⟨L, hL, hb⟩ := mem_foots hb
  obtain ⟨s, _, r⟩ := h.at_.mem hL
  exact r.has hb
theorem Stos.turn {K : PySem.W.Frag} {H H' : Hp} {Ls : List SL} {ss : List Sto} {i : Nat} {L L' : SL} {s' : Sto} (h : Stos K H Ls ss) (hi : Ls[i]? = some L) (k : Step L.foot L'.foot H H') (h' : StoAt K H' L' s') :
    Stos K H' (Ls.set i L') (ss.set i s') ∧ Step (foots Ls) (foots (Ls.set i L')) H H' := by
  have hlt := (List.getElem?_eq_some_iff.mp hi).1
  have e0 : Ls = Ls.take i ++ L :: Ls.drop (i + 1) := by
    conv => lhs; rw [← List.take_append_drop i Ls]
    rw [← List.getElem_cons_drop hlt, (List.getElem?_eq_some_iff.mp hi).2]
  have e1 : Ls.set i L' = Ls.take i ++ L' :: Ls.drop (i + 1) := by
    conv => lhs; rw [e0]
    have l : (Ls.take i).length = i := by
      rw [List.length_take]
      omega
    rw [List.set_append_right _ _ (by omega), l, Nat.sub_self]
    rfl
  have f0 : foots Ls = foots (Ls.take i) ++ (L.foot ++ foots (Ls.drop (i + 1))) := by
    conv => lhs; rw [e0]
    unfold foots
    simp
  have f1 : foots (Ls.set i L') = foots (Ls.take i) ++ (L'.foot ++ foots (Ls.drop (i + 1))) := by
    rw [e1]
    unfold foots
    simp
  have hm := List.mem_of_getElem? hi
  have nd := h.nd
  rw [f0] at nd
  have nd2 : (L.foot ++ (foots (Ls.take i) ++ foots (Ls.drop (i + 1)))).Nodup := by
    refine (List.Perm.nodup_iff ?_).mp nd
    rw [← List.append_assoc, ← List.append_assoc]
    exact List.perm_append_comm.append_right _
  have hB : ∀ b, b ∈ foots (Ls.take i) ++ foots (Ls.drop (i + 1)) → H b ≠ none := fun b hb => h.has (by
    rw [f0]
    simp only [List.mem_append] at hb ⊢
    rcases hb with hb | hb
    · exact .inl hb
    · exact .inr (.inr hb))
  have nd3 := nd_step k nd2 h'.nd hB
  have nd4 := (List.nodup_append.mp nd2).2.2
  refine ⟨⟨?_, ?_⟩, ?_⟩
  · have lss := h.at_.len
    obtain ⟨s0, hs0, _⟩ := h.at_.get hi
    have es : ss = ss.take i ++ s0 :: ss.drop (i + 1) := by
      conv => lhs; rw [← List.take_append_drop i ss]
      rw [← List.getElem_cons_drop (by omega), (List.getElem?_eq_some_iff.mp hs0).2]
    have tk : ∀ {α β : Type} {R : α → β → Prop} {xs : List α} {ys : List β} (n : Nat), All2 R xs ys → All2 R (xs.take n) (ys.take n) ∧ All2 R (xs.drop n) (ys.drop n) := by
      intro α β R xs ys n h
      induction h generalizing n with
      | nil => simp; exact .nil
      | cons r t ih =>
        cases n with
        | zero => simp; exact ⟨.nil, .cons r t⟩
        | succ n => simp; exact ⟨.cons r (ih n).1, (ih n).2⟩
    have e2 : ss.set i s' = ss.take i ++ s' :: ss.drop (i + 1) := by
      conv => lhs; rw [es]
      have l : (ss.take i).length = i := by
        rw [List.length_take]
        omega
      rw [List.set_append_right _ _ (by omega), l, Nat.sub_self]
      rfl
    rw [e1, e2]
    refine ((tk i h.at_).1.imp fun M t hM _ r => r.step k fun b hb z => ?_).append (.cons h' ((tk (i + 1) h.at_).2.imp fun M t hM _ r => r.step k fun b hb z => ?_))
    · exact nd4 b z b (List.mem_append_left _ (foots_mem hM hb)) rfl
    · exact nd4 b z b (List.mem_append_right _ (foots_mem hM hb)) rfl
  · rw [f1]
    refine (List.Perm.nodup_iff ?_).mp nd3
    rw [← List.append_assoc, ← List.append_assoc]
    exact List.perm_append_comm.append_right _
  · rw [f0, f1]
    refine k.frame (fun b hb => by simp [hb]) fun b hb => ?_
    simp only [List.mem_append] at hb ⊢
    rcases hb with hb | hb | hb
    · exact .inr (.inl hb)
    · exact .inl hb
    · exact .inr (.inr (.inr hb))
/-! ### what looks tell, as data -/
def pairD (p : Int × Int) : PyData := .tuple [.int p.1, .int p.2]
def lotD (l : List (Int × Int)) : PyData := .list (l.map pairD)
def intsD (l : List Int) : PyData := .list (l.map .int)
def wroomD : Option (Int × Int) → PyData
  | none => .none
  | some p => .int p.1
def wnumD : Option (Int × Int) → PyData
  | none => .none
  | some p => .int p.2
def heldD (s : Sto) : PyData := .list (s.frs.map fun f => .tuple [.int f.room, .int f.num, .bool f.dirty])
def queueD (s : Sto) : PyData := .list (s.q.row.map fun r => .tuple [.int r.cnt, wroomD r.w, wnumD r.w])
def lotsD (d : Dsk) : PyData := .list (d.lots.map lotD)
section
variable {K : PySem.W.Frag} {H : Hp}
theorem dp_room (w : Option (Int × Int)) : Dp K H (roomV w) (wroomD w) := by
  cases w with
  | none => exact .non
  | some p => exact .int _
theorem dp_num (w : Option (Int × Int)) : Dp K H (numV w) (wnumD w) := by
  cases w with
  | none => exact .non
  | some p => exact .int _
theorem dp_map {α : Type} {f : α → PyData} {R : α → V → Prop} (h : ∀ a v, R a v → Dp K H v (f a)) : ∀ {xs : List α} {vs : List V}, All2 R xs vs → DpAll K H vs (xs.map f)
  | _, _, .nil => .nil
  | _, _, .cons r t => .cons (h _ _ r) (dp_map h t)
theorem dp_ints : ∀ l : List Int, DpAll K H (l.map V.int) (l.map .int)
  | [] => .nil
  | i :: l => .cons (.int i) (dp_ints l)
theorem dp_intl {p : Addr} {l : List Int} (e : H p = some (.lst (l.map V.int))) : Dp K H (.ref p) (intsD l) := .lst (SqL.of e) (dp_ints l)
theorem dp_held {p : Addr} {vs : List V} {s : Sto} (e : H p = some (.lst vs)) (h : All2 (fun f v => heldT f v H) s.frs vs) : Dp K H (.ref p) (heldD s) :=
  .lst (SqL.of e) (dp_map (fun f v ⟨t, ev, ht⟩ => ev ▸ .tup (SqT.of ht) (.cons (.int _) (.cons (.int _) (.cons (.bl _) .nil)))) h)
theorem dp_queue {p : Addr} {vs : List V} {s : Sto} (e : H p = some (.lst vs)) (h : All2 (fun r v => askT r v H) s.q.row vs) : Dp K H (.ref p) (queueD s) :=
  .lst (SqL.of e) (dp_map (fun f v ⟨t, ev, ht⟩ => ev ▸ .tup (SqT.of ht) (.cons (.int _) (.cons (dp_room _) (.cons (dp_num _) .nil)))) h)
theorem dp_pairs : ∀ {ts : List Addr} {l : List (Int × Int)}, All2 (TupAt H) ts l → DpAll K H (ts.map V.ref) (l.map pairD)
  | _, _, .nil => .nil
  | _, _, .cons r t => .cons (.tup (SqT.of r) (.cons (.int _) (.cons (.int _) .nil))) (dp_pairs t)
theorem dp_lot {a : Addr} {l : List (Int × Int)} (h : LotAt H a l) : Dp K H (.ref a) (lotD l) := by
  obtain ⟨ts, e, t⟩ := h
  exact .lst (SqL.of e) (dp_pairs t)
theorem dp_lots : ∀ {ps : List Addr} {ls : List (List (Int × Int))}, All2 (LotAt H) ps ls → DpAll K H (ps.map V.ref) (ls.map lotD)
  | _, _, .nil => .nil
  | _, _, .cons r t => .cons (dp_lot r) (dp_lots t)
theorem dp_same {H' : Hp} (k : Same H H') : ∀ (d : PyData) (v : V), Dp K H v d → Dp K H' v d := by
  have hl : ∀ {a xs}, SqL K H a xs → SqL K H' a xs := fun h => k.seq h
  have ht : ∀ {a xs}, SqT K H a xs → SqT K H' a xs := fun h => by
    rcases h with (h | ⟨o, h⟩) | h
    · exact .inl (.inl (k _ _ h))
    · exact .inl (.inr ⟨o, k _ _ h⟩)
    · exact .inr h
  intro d v h
  refine Dp.rec (motive_1 := fun v d _ => Dp K H' v d) (motive_2 := fun vs ds _ => DpAll K H' vs ds) ?_ ?_ ?_ ?_ ?_ ?_ ?_ ?_ h
  · exact .non
  · exact fun b => .bl b
  · exact fun i => .int i
  · exact fun x => .str x
  · exact fun h1 _ h2 => .lst (hl h1) h2
  · exact fun h1 _ h2 => .tup (ht h1) h2
  · exact .nil
  · exact fun _ _ h1 h2 => .cons h1 h2
end
theorem fit_pairs {l : List (Int × Int)} {N n : Nat} (hN : N < 10 ^ 22) (h : ∀ p ∈ l, p.1.natAbs < 10 ^ 22 ∧ p.2.natAbs ≤ N) (hn : l.length ≤ n) : Fit (lotD l) 2 (n * 3) := by
  refine Fit.list (k := 1) (c := 2) (fun x hx => ?_) (by rw [List.length_map]; exact hn)
  obtain ⟨p, hp, rfl⟩ := List.mem_map.mp hx
  refine Fit.tuple (k := 0) (c := 0) (n := 2) (fun y hy => ?_) (Nat.le_refl _)
  simp only [List.mem_cons, List.not_mem_nil, or_false] at hy
  rcases hy with rfl | rfl
  · exact Fit.int (h p hp).1
  · exact Fit.int (Nat.lt_of_le_of_lt (h p hp).2 hN)
theorem fit_ints {l : List Int} {N n : Nat} (hN : N < 10 ^ 22) (h : ∀ x ∈ l, x.natAbs ≤ N) (hn : l.length ≤ n) : Fit (intsD l) 1 (n * 1) := by
  refine Fit.list (k := 0) (c := 0) (fun x hx => ?_) (by rw [List.length_map]; exact hn)
  obtain ⟨p, hp, rfl⟩ := List.mem_map.mp hx
  exact Fit.int (Nat.lt_of_le_of_lt (h p hp) hN)
theorem fit_held {s : Sto} {N P B : Nat} (h : s.Nm N P) (ok : s.Ok B) (hN : N < 10 ^ 22) : Fit (heldD s) 2 (8 * 4) := by
  have hnf := ok.nf
  have hmf := ok.mf
  have sz := ok.size
  refine Fit.list (k := 1) (c := 3) (fun x hx => ?_) (by rw [List.length_map]; omega)
  obtain ⟨f, hf, rfl⟩ := List.mem_map.mp hx
  have hr := ok.fr f hf
  refine Fit.tuple (k := 0) (c := 0) (n := 3) (fun y hy => ?_) (Nat.le_refl _)
  simp only [List.mem_cons, List.not_mem_nil, or_false] at hy
  rcases hy with rfl | rfl | rfl
  · exact Fit.int (Nat.lt_of_le_of_lt (by omega : f.room.natAbs ≤ 40) (by decide))
  · exact Fit.int (Nat.lt_of_le_of_lt (h.fr f hf) hN)
  · exact Fit.bool _
theorem fit_queue {s : Sto} {N P B : Nat} (h : s.Nm N P) (ok : s.Ok B) (hN : N < 10 ^ 22) (hP : P < 10 ^ 22) : Fit (queueD s) 2 (B * 4) := by
  have sz := ok.size
  have wr := ok.wear
  refine Fit.list (k := 1) (c := 3) (fun x hx => ?_) (by rw [List.length_map]; omega)
  obtain ⟨r, hr, rfl⟩ := List.mem_map.mp hx
  refine Fit.tuple (k := 0) (c := 0) (n := 3) (fun y hy => ?_) (Nat.le_refl _)
  simp only [List.mem_cons, List.not_mem_nil, or_false] at hy
  rcases hy with rfl | rfl | rfl
  · have a1 := h.cn r hr
    have a2 := ok.ctr r hr
    have a3 := h.put
    exact Fit.int (by omega)
  · cases e : r.w with
    | none => exact Fit.none
    | some p =>
      have := ok.rq r hr p e
      exact Fit.int (Nat.lt_of_le_of_lt (by omega : p.1.natAbs ≤ 40) (by decide))
  · cases e : r.w with
    | none => exact Fit.none
    | some p => exact Fit.int (Nat.lt_of_le_of_lt (h.rq r hr p e) hN)
theorem fit_lots {s : Sto} {N P B : Nat} (h : s.Nm N P) (ok : s.Ok B) (hN : N < 10 ^ 22) : Fit (lotsD s.d) 3 (B * (B * 3 + 1)) := by
  have sz := ok.size
  have wr := ok.wear
  refine Fit.list (k := 2) (c := B * 3) (fun x hx => ?_) (by rw [List.length_map]; omega)
  obtain ⟨l, hl, rfl⟩ := List.mem_map.mp hx
  refine fit_pairs hN (fun p hp => ?_) ?_
  · have := ok.drooms l hl p hp
    exact ⟨Nat.lt_of_le_of_lt (by omega : p.1.natAbs ≤ 40) (by decide), h.lots l hl p hp⟩
  · obtain ⟨l1, l2, e⟩ := List.append_of_mem hl
    have : l.length ≤ s.d.lots.flatten.length := by
      rw [e, List.flatten_append, List.length_append, List.flatten_cons, List.length_append]
      omega
    omega
end SY

/-! ## Prog, part R: what reads show -/
namespace SY
open PySem PySem.Spec PyProof.Rows L2 XB
def Sto.view (s : Sto) (room : Int) : Int := (((s.own room).head?).map (·.num)).getD (s.look room)
structure Sto.Tr (s : Sto) : Prop where
  nd : (s.frs.map (·.room)).Nodup
  cl : ∀ f ∈ s.frs, f.dirty = false → f.num = s.look f.room
theorem own_filter (frs : List Fra) (nd : (frs.map (·.room)).Nodup) : ∀ {f : Fra}, f ∈ frs → frs.filter (fun g => decide (g.room = f.room)) = [f] := by
  induction frs with
  | nil => intro f h; cases h
  | cons g gs ih =>
    intro f h
    rw [List.map_cons, List.nodup_cons] at nd
    have no : ∀ {x : Fra}, x.room = g.room → gs.filter (fun y => decide (y.room = x.room)) = [] := fun {x} e => by
      rw [List.filter_eq_nil_iff]
      intro y hy z
      exact nd.1 (List.mem_map.mpr ⟨y, hy, (of_decide_eq_true z).trans e⟩)
    rcases List.mem_cons.mp h with rfl | h
    · rw [List.filter_cons_of_pos (by simp), no rfl]
    · have hne : ¬ g.room = f.room := fun e => nd.1 (List.mem_map.mpr ⟨f, h, e.symm⟩)
      rw [List.filter_cons_of_neg (by simpa using hne)]
      exact ih nd.2 h
theorem own_mem {s : Sto} (nd : (s.frs.map (·.room)).Nodup) {f : Fra} (h : f ∈ s.frs) : s.own f.room = [f] := own_filter s.frs nd h
theorem own_none {s : Sto} {room : Int} (h : s.own room = []) : ∀ f ∈ s.frs, f.room ≠ room := fun f hf e => by
  have := List.filter_eq_nil_iff.mp h f hf
  simp at this
  exact this e
theorem view_of {s : Sto} (nd : (s.frs.map (·.room)).Nodup) {f : Fra} (h : f ∈ s.frs) : s.view f.room = f.num := by
  unfold Sto.view
  rw [own_mem nd h]
  rfl
theorem view_no {s : Sto} {room : Int} (h : ∀ f ∈ s.frs, f.room ≠ room) : s.view room = s.look room := by
  unfold Sto.view Sto.own
  rw [List.filter_eq_nil_iff.mpr fun f hf z => h f hf (of_decide_eq_true z)]
  rfl
/-- the view, told by cases -/
theorem view_iff {s t : Sto} (hs : (s.frs.map (·.room)).Nodup) (ht : (t.frs.map (·.room)).Nodup) {room : Int}
    (h1 : ∀ f ∈ s.frs, f.room = room → ∃ g ∈ t.frs, g.room = room ∧ g.num = f.num) (h2 : (∀ f ∈ s.frs, f.room ≠ room) → (∀ g ∈ t.frs, g.room ≠ room) ∧ t.look room = s.look room ∨ ∃ g ∈ t.frs, g.room = room ∧ g.num = s.look room) : t.view room = s.view room := by
  by_cases h : ∃ f ∈ s.frs, f.room = room
  · obtain ⟨f, hf, rfl⟩ := h
    obtain ⟨g, hg, e, en⟩ := h1 f hf rfl
    rw [view_of hs hf, ← e, view_of ht hg, en]
  · have hn : ∀ f ∈ s.frs, f.room ≠ room := fun f hf e => h ⟨f, hf, e⟩
    rw [view_no hn]
    rcases h2 hn with ⟨a, b⟩ | ⟨g, hg, e, en⟩
    · rw [view_no a, b]
    · rw [← e, view_of ht hg, en, e]
theorem look_put {s : Sto} {w : Option (Int × Int)} {frs : List Fra} (room : Int) : ({ s with q := s.q.put1 w, frs := frs } : Sto).look room = match w with
    | none => s.look room
    | some p => if p.1 = room then p.2 else s.look room := by
  unfold Sto.look Que.mine Que.put1
  dsimp only
  rw [List.filter_append]
  cases w with
  | none =>
    rw [List.filter_cons_of_neg (by simp [roomV]), List.filter_nil, List.append_nil]
  | some p =>
    by_cases e : p.1 = room
    · rw [List.filter_cons_of_pos (by simp [roomV, e]), List.getLast?_append]
      simp [e]
    · rw [List.filter_cons_of_neg (by simp [roomV, e]), List.filter_nil, List.append_nil]
      simp [e]
theorem wash_rooms {frs : List Fra} {i : Nat} {f : Fra} (h : frs[i]? = some f) : (frs.set i f.wash).map (·.room) = frs.map (·.room) := set_same (f := fun (x : Fra) => x.room) h rfl
theorem clean_eq {s : Sto} {i : Nat} {f : Fra} (h : s.frs[i]? = some f) : s.clean i = { s with q := s.q.put1 (some (f.room, f.num)), frs := s.frs.set i f.wash } := by
  unfold Sto.clean
  rw [h]
theorem clean_look {s : Sto} {i : Nat} {f : Fra} (h : s.frs[i]? = some f) (room : Int) : (s.clean i).look room = if f.room = room then f.num else s.look room := by
  rw [clean_eq h]
  exact look_put (w := some (f.room, f.num)) room
theorem clean_tr {s : Sto} (h : s.Tr) (i : Nat) : (s.clean i).Tr ∧ ∀ room, (s.clean i).view room = s.view room := by
  cases e : s.frs[i]? with
  | none =>
    have : s.clean i = s := by
      unfold Sto.clean
      rw [e]
    rw [this]
    exact ⟨h, fun _ => rfl⟩
  | some f =>
    have hm := List.mem_of_getElem? e
    have nd : ((s.clean i).frs.map (·.room)).Nodup := by
      rw [clean_eq e]
      show ((s.frs.set i f.wash).map _).Nodup
      rw [wash_rooms e]
      exact h.nd
    have hfw : f.wash ∈ (s.clean i).frs := by
      rw [clean_eq e]
      exact List.mem_of_getElem? (i := i) (by rw [List.getElem?_set_self (List.getElem?_eq_some_iff.mp e).1])
    have sub : ∀ g ∈ (s.clean i).frs, g = f.wash ∨ (g ∈ s.frs ∧ g.room ≠ f.room) := by
      intro g hg
      by_cases er : g.room = f.room
      · have h1 := own_mem nd hg
        have h2 := own_mem nd hfw
        rw [show f.wash.room = f.room from rfl, ← er, h1] at h2
        exact .inl (List.cons.inj h2).1
      · right
        rw [clean_eq e] at hg
        rcases List.mem_or_eq_of_mem_set hg with z | z
        · exact ⟨z, er⟩
        · exact absurd (by rw [z]; rfl) er
    refine ⟨⟨nd, fun g hg hd => ?_⟩, fun room => view_iff h.nd nd ?_ ?_⟩
    · rw [clean_look e]
      rcases sub g hg with rfl | ⟨hg2, er⟩
      · show f.num = if f.room = f.room then f.num else s.look f.room
        rw [if_pos rfl]
      · rw [if_neg (Ne.symm er)]
        exact h.cl g hg2 hd
    · intro g hg er
      by_cases ef : f.room = room
      · have h1 := own_mem h.nd hg
        have h2 := own_mem h.nd hm
        rw [ef, ← er, h1] at h2
        have := (List.cons.inj h2).1
        exact ⟨f.wash, hfw, ef, by rw [this]; rfl⟩
      · refine ⟨g, ?_, er, rfl⟩
        rw [clean_eq e]
        obtain ⟨j, hj⟩ := List.getElem?_of_mem hg
        have hij : i ≠ j := fun z => by
          rw [← z, e] at hj
          cases hj
          exact ef er
        exact List.mem_of_getElem? (i := j) (by
          show (s.frs.set i f.wash)[j]? = _
          rw [List.getElem?_set_ne hij]
          exact hj)
    · intro hn
      left
      refine ⟨fun g hg er => ?_, ?_⟩
      · rcases sub g hg with rfl | ⟨hg2, _⟩
        · exact hn f hm er
        · exact hn g hg2 er
      · rw [clean_look e, if_neg (fun z => hn f hm z)]
theorem others_mem {s : Sto} {room : Int} {f : Fra} : f ∈ s.others room ↔ f ∈ s.frs ∧ f.room ≠ room := by
  unfold Sto.others
  rw [List.mem_filter]
  simp
theorem others_nd {s : Sto} (h : (s.frs.map (·.room)).Nodup) (room : Int) : ((s.others room).map (·.room)).Nodup := by
  refine List.Nodup.sublist ?_ h
  exact List.Sublist.map _ List.filter_sublist
theorem drop_tr {s : Sto} (h : s.Tr) {room : Int} (hc : ∀ f ∈ s.frs, f.room = room → f.dirty = false) : ({ s with frs := s.others room } : Sto).Tr ∧ ∀ r, ({ s with frs := s.others room } : Sto).view r = s.view r := by
  have lk : ∀ r, ({ s with frs := s.others room } : Sto).look r = s.look r := fun r => rfl
  refine ⟨⟨others_nd h.nd room, fun f hf hd => h.cl f (others_mem.mp hf).1 hd⟩, fun r => ?_⟩
  by_cases er : r = room
  · subst er
    rw [view_no fun f hf => (others_mem.mp hf).2, lk]
    by_cases hx : ∃ f ∈ s.frs, f.room = r
    · obtain ⟨f, hf, e⟩ := hx
      rw [← e, view_of h.nd hf, h.cl f hf (hc f hf e)]
    · rw [view_no fun f hf e => hx ⟨f, hf, e⟩]
  · refine view_iff h.nd (others_nd h.nd room) ?_ ?_
    · intro f hf e
      exact ⟨f, others_mem.mpr ⟨hf, by rw [e]; exact er⟩, e, rfl⟩
    · intro hn
      exact .inl ⟨fun g hg => hn g (others_mem.mp hg).1, rfl⟩
theorem leave_tr {s : Sto} (h : s.Tr) : s.leave.Tr ∧ ∀ r, s.leave.view r = s.view r := by
  unfold Sto.leave
  split
  · rename_i c cs e
    have hm : c ∈ s.frs.filter fun f => !f.dirty := by
      rw [e]
      simp
    obtain ⟨hc, hd⟩ := List.mem_filter.mp hm
    refine drop_tr h fun f hf er => ?_
    have h1 := own_mem h.nd hf
    have h2 := own_mem h.nd hc
    rw [er, h2] at h1
    rw [← (List.cons.inj h1).1]
    simpa using hd
  · split
    · exact ⟨h, fun _ => rfl⟩
    · rename_i f fs e
      have h0 : s.frs[0]? = some f := by
        rw [e]
        rfl
      obtain ⟨h1, v1⟩ := clean_tr h 0
      have hw : f.wash ∈ (s.clean 0).frs := by
        rw [clean_eq h0]
        exact List.mem_of_getElem? (i := 0) (by rw [List.getElem?_set_self (by rw [e]; simp)])
      obtain ⟨h2, v2⟩ := drop_tr h1 (room := f.room) fun g hg er => by
        have a1 := own_mem h1.nd hg
        have a2 := own_mem h1.nd hw
        rw [er, show f.room = f.wash.room from rfl, a2] at a1
        rw [← (List.cons.inj a1).1]
        rfl
      exact ⟨h2, fun r => (v2 r).trans (v1 r)⟩
theorem mid_tr {s : Sto} (h : s.Tr) (room : Int) : (s.mid room).Tr ∧ ∀ r, (s.mid room).view r = s.view r := by
  unfold Sto.mid
  split
  · split
    · exact leave_tr h
    · exact ⟨h, fun _ => rfl⟩
  · exact ⟨h, fun _ => rfl⟩
theorem leave_rooms {s : Sto} {f : Fra} (h : f ∈ s.leave.frs) : ∃ g ∈ s.frs, f.room = g.room := by
  unfold Sto.leave at h
  split at h
  · exact ⟨f, mem_others h, rfl⟩
  · split at h
    · exact ⟨f, h, rfl⟩
    · exact clean_room2 (mem_others h)
theorem mid_rooms {s : Sto} {room : Int} {f : Fra} (h : f ∈ (s.mid room).frs) : ∃ g ∈ s.frs, f.room = g.room := by
  unfold Sto.mid at h
  split at h
  · split at h
    · exact leave_rooms h
    · exact ⟨f, h, rfl⟩
  · exact ⟨f, h, rfl⟩
/-- behind a use the room has one frame, at its place -/
theorem use_tr {s : Sto} (h : s.Tr) (room : Int) : (s.use room).Tr ∧ (∀ r, (s.use room).view r = s.view r) ∧ ∃ f, (s.use room).frs[s.useIx room]? = some f ∧ f.room = room := by
  cases ho : (s.own room).isEmpty with
  | false =>
    obtain ⟨eu, ei⟩ := use_own ho
    rw [eu, ei]
    obtain ⟨f, hf, rfl⟩ : ∃ f ∈ s.frs, f.room = room := by
      cases e : s.own room with
      | nil =>
        rw [e] at ho
        cases ho
      | cons x xs =>
        have : x ∈ s.own room := by
          rw [e]
          simp
        exact ⟨x, (List.mem_filter.mp this).1, of_decide_eq_true (List.mem_filter.mp this).2⟩
    have e1 := own_mem h.nd hf
    rw [e1]
    have mem : ∀ g, g ∈ s.others f.room ++ [f] ↔ g ∈ s.frs := by
      intro g
      rw [List.mem_append, others_mem, List.mem_singleton]
      constructor
      · rintro (z | rfl)
        · exact z.1
        · exact hf
      · intro hg
        by_cases er : g.room = f.room
        · right
          have a1 := own_mem h.nd hg
          rw [er, e1] at a1
          exact (List.cons.inj a1).1.symm
        · exact .inl ⟨hg, er⟩
    have nd : ((s.others f.room ++ [f]).map (·.room)).Nodup := by
      rw [List.map_append, List.nodup_append]
      refine ⟨others_nd h.nd _, by simp, fun a ha b hb => ?_⟩
      obtain ⟨g, hg, rfl⟩ := List.mem_map.mp ha
      simp at hb
      rw [hb]
      exact (others_mem.mp hg).2
    refine ⟨⟨nd, fun g hg hd => h.cl g ((mem g).mp hg) hd⟩, fun r => view_iff h.nd nd (fun g hg e => ⟨g, (mem g).mpr hg, e, rfl⟩) fun hn => .inl ⟨fun g hg => hn g ((mem g).mp hg), rfl⟩, f, ?_, rfl⟩
    show (s.others f.room ++ [f])[_]? = _
    rw [List.getElem?_append_right (Nat.le_refl _), Nat.sub_self]
    rfl
  | true =>
    obtain ⟨eu, ei⟩ := use_new ho
    rw [eu, ei]
    obtain ⟨hm, vm⟩ := mid_tr h room
    have ho2 : s.own room = [] := by
      cases e : s.own room with
      | nil => rfl
      | cons x xs =>
        rw [e] at ho
        cases ho
    have nom : ∀ f ∈ (s.mid room).frs, f.room ≠ room := fun f hf e => by
      obtain ⟨g, hg, eg⟩ := mid_rooms hf
      exact own_none ho2 g hg (eg ▸ e)
    have eo : (s.mid room).others room = (s.mid room).frs := by
      unfold Sto.others
      rw [List.filter_eq_self]
      intro f hf
      simpa using nom f hf
    rw [eo]
    have nd : (((s.mid room).frs ++ [(⟨room, (s.mid room).look room, false⟩ : Fra)]).map (fun (x : Fra) => x.room)).Nodup := by
      rw [List.map_append, List.nodup_append]
      refine ⟨hm.nd, by simp, fun a ha b hb => ?_⟩
      obtain ⟨g, hg, rfl⟩ := List.mem_map.mp ha
      simp at hb
      rw [hb]
      exact nom g hg
    have lk : ∀ r, ({ s.mid room with frs := (s.mid room).frs ++ [⟨room, (s.mid room).look room, false⟩] } : Sto).look r = (s.mid room).look r := fun r => rfl
    refine ⟨⟨nd, fun g hg hd => ?_⟩, fun r => ?_, (⟨room, (s.mid room).look room, false⟩ : Fra), ?_, rfl⟩
    · rw [lk]
      rcases List.mem_append.mp hg with z | z
      · exact hm.cl g z hd
      · rw [List.mem_singleton] at z
        rw [z]
    · rw [← vm r]
      refine view_iff hm.nd nd (fun g hg e => ⟨g, List.mem_append_left _ hg, e, rfl⟩) fun hn => ?_
      by_cases er : r = room
      · subst er
        exact .inr ⟨_, List.mem_append_right _ (List.mem_singleton.mpr rfl), rfl, rfl⟩
      · refine .inl ⟨fun g hg e => ?_, rfl⟩
        rcases List.mem_append.mp hg with z | z
        · exact hn g z e
        · rw [List.mem_singleton] at z
          rw [z] at e
          exact er e.symm
    · rw [List.getElem?_append_right (Nat.le_refl _), Nat.sub_self]
      rfl
theorem val_view {s : Sto} (h : s.Tr) (room : Int) : s.val room = s.view room := by
  obtain ⟨h1, v1, f, hf, er⟩ := use_tr h room
  unfold Sto.val
  rw [hf, ← v1 room]
  have := view_of h1.nd (List.mem_of_getElem? hf)
  rw [er] at this
  exact this.symm
theorem marked_tr {s : Sto} (h : s.Tr) (room num : Int) : (s.marked room num).Tr ∧ ∀ r, (s.marked room num).view r = if r = room then num else s.view r := by
  obtain ⟨h1, v1, f, hf, er⟩ := use_tr h room
  have em : s.marked room num = { s.use room with frs := (s.use room).frs.set (s.useIx room) ⟨f.room, num, true⟩ } := by
    unfold Sto.marked Sto.mark
    rw [hf]
  rw [em]
  have nd : (((s.use room).frs.set (s.useIx room) ⟨f.room, num, true⟩).map (·.room)).Nodup := by
    rw [set_same (f := fun (x : Fra) => x.room) (y := (⟨f.room, num, true⟩ : Fra)) hf rfl]
    exact h1.nd
  have hin : (⟨f.room, num, true⟩ : Fra) ∈ (s.use room).frs.set (s.useIx room) ⟨f.room, num, true⟩ := List.mem_of_getElem? (i := s.useIx room) (by rw [List.getElem?_set_self (List.getElem?_eq_some_iff.mp hf).1])
  have sub : ∀ g ∈ (s.use room).frs.set (s.useIx room) ⟨f.room, num, true⟩, g = ⟨f.room, num, true⟩ ∨ g ∈ (s.use room).frs := fun g hg => (List.mem_or_eq_of_mem_set hg).symm
  refine ⟨⟨nd, fun g hg hd => ?_⟩, fun r => ?_⟩
  · rcases sub g hg with rfl | z
    · cases hd
    · exact h1.cl g z hd
  · by_cases e : r = room
    · rw [if_pos e]
      have := view_of (s := { s.use room with frs := (s.use room).frs.set (s.useIx room) ⟨f.room, num, true⟩ }) nd hin
      exact (congrArg (fun z => Sto.view _ z) (e.trans er.symm)).trans this
    · rw [if_neg e, ← v1 r]
      refine view_iff h1.nd nd (fun g hg eg => ⟨g, ?_, eg, rfl⟩) fun hn => .inl ⟨fun g hg eg => ?_, rfl⟩
      · obtain ⟨j, hj⟩ := List.getElem?_of_mem hg
        have hij : s.useIx room ≠ j := fun z => by
          rw [← z, hf] at hj
          cases hj
          exact e (eg.symm.trans er)
        exact List.mem_of_getElem? (i := j) (by rw [List.getElem?_set_ne hij]; exact hj)
      · rcases sub g hg with rfl | z
        · exact e (eg.symm.trans er)
        · exact hn g z eg
theorem write_tr {s : Sto} (h : s.Tr) (room num : Int) : (s.write room num).Tr ∧ ∀ r, (s.write room num).view r = if r = room then num else s.view r := by
  obtain ⟨h1, v1⟩ := marked_tr h room num
  unfold Sto.write
  split
  · obtain ⟨h2, v2⟩ := clean_tr h1 ((s.marked room num).frs.findIdx (·.dirty))
    exact ⟨h2, fun r => (v2 r).trans (v1 r)⟩
  · exact ⟨h1, v1⟩
theorem wash1_tr {s : Sto} (h : s.Tr) (i : Nat) : (s.wash1 i).Tr ∧ ∀ r, (s.wash1 i).view r = s.view r := by
  unfold Sto.wash1
  split
  · exact ⟨h, fun _ => rfl⟩
  · split
    · exact clean_tr h i
    · exact ⟨h, fun _ => rfl⟩
theorem washed_tr : ∀ (l : List Nat) {s : Sto}, s.Tr → (l.foldl Sto.wash1 s).Tr ∧ ∀ r, (l.foldl Sto.wash1 s).view r = s.view r
  | [], s, h => ⟨h, fun _ => rfl⟩
  | i :: l, s, h => by
    obtain ⟨h1, v1⟩ := wash1_tr h i
    obtain ⟨h2, v2⟩ := washed_tr l h1
    exact ⟨h2, fun r => (v2 r).trans (v1 r)⟩
theorem order_tr {s : Sto} (h : s.Tr) : s.order.Tr ∧ ∀ r, s.order.view r = s.view r := by
  obtain ⟨h1, v1⟩ := washed_tr s.turns h
  have lk : ∀ r, s.order.look r = s.washed.look r := fun r => look_put (s := s.washed) (w := none) (frs := s.washed.frs) r
  refine ⟨⟨h1.nd, fun f hf hd => (h1.cl f hf hd).trans (lk _).symm⟩, fun r => ?_⟩
  rw [← v1 r]
  exact view_iff (s := s.washed) (t := s.order) h1.nd h1.nd (fun g hg e => ⟨g, hg, e, rfl⟩) fun hn => .inl ⟨hn, lk r⟩
/-- an order leaves no frame dirty -/
theorem wash1_frs (s : Sto) (i j : Nat) : (s.wash1 i).frs[j]? = (s.frs[j]?).map fun f => if i = j then f.wash else f := by
  unfold Sto.wash1
  cases e : s.frs[i]? with
  | none =>
    dsimp only
    by_cases z : i = j
    · subst z
      rw [e]
      rfl
    · cases s.frs[j]? <;> simp [z]
  | some f =>
    dsimp only
    have same : ∀ g : Fra, g.dirty = false → g.wash = g := fun g hg => by
      cases g
      dsimp only at hg
      subst hg
      rfl
    split
    · rw [clean_eq e]
      show (s.frs.set i f.wash)[j]? = _
      by_cases z : i = j
      · subst z
        rw [List.getElem?_set_self (List.getElem?_eq_some_iff.mp e).1, e]
        simp
      · rw [List.getElem?_set_ne z]
        cases s.frs[j]? <;> simp [z]
    · rename_i hd
      by_cases z : i = j
      · subst z
        rw [e]
        simp [same f (by simpa using hd)]
      · cases s.frs[j]? <;> simp [z]
theorem washed_frs : ∀ (l : List Nat) (s : Sto) (j : Nat), (l.foldl Sto.wash1 s).frs[j]? = (s.frs[j]?).map fun f => if j ∈ l then f.wash else f
  | [], s, j => by cases h : s.frs[j]? <;> simp [h]
  | i :: l, s, j => by
    rw [List.foldl_cons, washed_frs l (s.wash1 i) j, wash1_frs, Option.map_map]
    congr 1
    funext f
    dsimp only [Function.comp]
    by_cases z : i = j
    · subst z
      simp only [List.mem_cons, true_or, if_true]
      split <;> rfl
    · have : (j ∈ i :: l) ↔ j ∈ l := by
        rw [List.mem_cons]
        exact ⟨fun h => h.resolve_left fun e => z e.symm, .inr⟩
      simp only [this, if_neg z]
theorem order_frs (s : Sto) (j : Nat) : s.order.frs[j]? = (s.frs[j]?).map Fra.wash := by
  show s.washed.frs[j]? = _
  unfold Sto.washed
  rw [washed_frs]
  cases e : s.frs[j]? with
  | none => rfl
  | some f =>
    have : j ∈ s.turns := by
      unfold Sto.turns
      rw [List.mem_mergeSort, List.mem_range]
      exact (List.getElem?_eq_some_iff.mp e).1
    simp [this]
theorem order_clean {s : Sto} {f : Fra} (h : f ∈ s.order.frs) : f.dirty = false := by
  obtain ⟨j, hj⟩ := List.getElem?_of_mem h
  rw [order_frs] at hj
  obtain ⟨g, _, rfl⟩ := Option.map_eq_some_iff.mp hj
  rfl
theorem kLt_iff (a b : KT) : kLt a b = true ↔ (a.1 = false ∧ b.1 = true) ∨ (a.1 = b.1 ∧ (a.2.1 < b.2.1 ∨ (a.2.1 = b.2.1 ∧ a.2.2 < b.2.2))) := by
  obtain ⟨a1, a2, a3⟩ := a
  obtain ⟨b1, b2, b3⟩ := b
  unfold kLt
  cases a1 <;> cases b1 <;> simp <;> omega
theorem kLt_trans {a b c : KT} (h1 : kLt a b = true) (h2 : kLt b c = true) : kLt a c = true := by
  rw [kLt_iff] at h1 h2 ⊢
  obtain ⟨a1, a2, a3⟩ := a
  obtain ⟨b1, b2, b3⟩ := b
  obtain ⟨c1, c2, c3⟩ := c
  cases a1 <;> cases b1 <;> cases c1 <;> simp at h1 h2 ⊢ <;> omega
theorem kLt_irr (a : KT) : kLt a a = false := by
  cases h : kLt a a with
  | false => rfl
  | true =>
    rw [kLt_iff] at h
    obtain ⟨a1, a2, a3⟩ := a
    cases a1 <;> simp at h
theorem argBest_min (kf : Nat → KT) : ∀ n j, j ≤ n → kLt (kf j) (kf (argBest (fun i j => kLt (kf i) (kf j)) n)) = false
  | 0, j, h => by
    have : j = 0 := by omega
    subst this
    exact kLt_irr _
  | n + 1, j, h => by
    unfold argBest
    cases hc : kLt (kf (n + 1)) (kf (argBest (fun i j => kLt (kf i) (kf j)) n)) with
    | true =>
      rw [if_pos rfl]
      by_cases e : j = n + 1
      · subst e
        exact kLt_irr _
      · cases hj : kLt (kf j) (kf (n + 1)) with
        | false => rfl
        | true =>
          have := argBest_min kf n j (by omega)
          rw [kLt_trans hj hc] at this
          cases this
    | false =>
      rw [if_neg Bool.false_ne_true]
      by_cases e : j = n + 1
      · subst e
        exact hc
      · exact argBest_min kf n j (by omega)
/-- the one that is served is the first of its room -/
theorem pick_first {q : Que} (hp : q.row.Pairwise fun a b => a.cnt < b.cnt) {r : Rq} {room num : Int} (hr : q.row[q.pick]? = some r) (hw : r.w = some (room, num)) : ∀ j, j < q.pick → ∀ o, q.row[j]? = some o → roomV o.w ≠ .int room := by
  intro j hj o ho e
  have hne : q.row ≠ [] := fun z => by
    rw [z] at ho
    simp at ho
  obtain ⟨y, ys, hR⟩ : ∃ y ys, q.row = y :: ys := by
    cases e : q.row with
    | nil => exact absurd e hne
    | cons x xs => exact ⟨x, xs, rfl⟩
  have hpk : q.pick = argBest (fun i j => kLt (q.key i) (q.key j)) (q.fr - 1) ∧ q.fr ≠ 0 := by
    have h0 : q.pick ≠ 0 := by omega
    unfold Que.pick at h0 ⊢
    rw [hR] at h0 ⊢
    dsimp only at h0 ⊢
    split at h0
    · exact absurd rfl h0
    · rename_i c1
      rw [if_neg c1]
      split at h0
      · exact absurd rfl h0
      · rename_i c2
        rw [if_neg c2]
        exact ⟨rfl, c2⟩
  have hle := argBest_le (fun i j => kLt (q.key i) (q.key j)) (q.fr - 1)
  have hjf : j ≤ q.fr - 1 := by omega
  have hm := argBest_min q.key (q.fr - 1) j hjf
  rw [← hpk.1] at hm
  obtain ⟨c, p, sn, hj2⟩ := fr_write (q := q) (i := j) (by omega)
  rw [ho] at hj2
  cases hj2
  have er : p.1 = room := V.int.inj e
  obtain ⟨c2, w2, s2⟩ := r
  dsimp only at hw
  subst hw
  have k1 : q.key j = (decide (room < q.arm), room, c) := by
    unfold Que.key
    rw [ho, ← er]
  have k2 : q.key q.pick = (decide (room < q.arm), room, c2) := by
    unfold Que.key
    rw [hr]
  have hlt : c < c2 := by
    have := List.pairwise_iff_getElem.mp hp j q.pick (List.getElem?_eq_some_iff.mp ho).1 (List.getElem?_eq_some_iff.mp hr).1 hj
    rw [(List.getElem?_eq_some_iff.mp ho).2, (List.getElem?_eq_some_iff.mp hr).2] at this
    exact this
  rw [k1, k2] at hm
  have : kLt (decide (room < q.arm), room, c) (decide (room < q.arm), room, c2) = true := by
    rw [kLt_iff]
    exact .inr ⟨rfl, .inr ⟨rfl, hlt⟩⟩
  rw [this] at hm
  cases hm
theorem filter_split {q : List Rq} (hp : q.Pairwise fun a b => a.cnt < b.cnt) : ∀ {i : Nat} {r : Rq}, q[i]? = some r → q.filter (fun o => !decide (o.cnt = r.cnt)) = q.take i ++ q.drop (i + 1) := by
  induction q with
  | nil => intro i r h; simp at h
  | cons x xs ih =>
    intro i r h
    obtain ⟨h1, h2⟩ := List.pairwise_cons.mp hp
    cases i with
    | zero =>
      rw [List.getElem?_cons_zero] at h
      cases h
      rw [List.filter_cons_of_neg (by simp)]
      simp only [List.take_zero, List.nil_append, List.drop_succ_cons, List.drop_zero]
      rw [List.filter_eq_self]
      intro a ha
      have := h1 a ha
      simp
      omega
    | succ i =>
      rw [List.getElem?_cons_succ] at h
      have hlt := h1 r (List.mem_of_getElem? h)
      rw [List.filter_cons_of_pos (by simp; omega), ih h2 h]
      rfl
theorem shown_write {d : Dsk} (hne : d.lots ≠ []) (room num : Int) : (d.write room num).shown = setP d.shown (room, num) := by
  have fl : ∀ (ls : List (List (Int × Int))) (x : Int × Int), ls ≠ [] → (addLast ls x).flatten = ls.flatten ++ [x] := by
    intro ls x
    induction ls with
    | nil => intro h; exact absurd rfl h
    | cons l ls ih =>
      intro _
      cases ls with
      | nil => simp [addLast]
      | cons l2 ls =>
        have e : addLast (l :: l2 :: ls) x = l :: addLast (l2 :: ls) x := by
          unfold addLast
          simp
        rw [e, List.flatten_cons, ih (by simp), List.flatten_cons (L := l2 :: ls), List.append_assoc]
  unfold Dsk.shown Dsk.with_
  rw [List.take_length, List.take_length]
  show ((addLast d.lots (room, num)).flatten).foldl setP d.sure = _
  rw [fl _ _ hne, List.foldl_append]
  rfl
theorem shown_barrier (d : Dsk) : d.barrier.shown = d.shown := by
  unfold Dsk.shown Dsk.with_ Dsk.barrier
  rw [List.take_length, List.take_length]
  simp
theorem mine_served {q : Que} (hp : q.row.Pairwise fun a b => a.cnt < b.cnt) {i : Nat} {r : Rq} (hr : q.row[i]? = some r) (room : Int) :
    (q.served r).mine room = ((q.row.take i ++ q.row.drop (i + 1)).filter fun o => decide (roomV o.w = .int room)).map Rq.inc := by
  unfold Que.mine Que.served
  dsimp only
  rw [filter_split hp hr, List.filter_map]
  rfl
def lastN (l : List Rq) (d : Int) : Int := ((l.getLast?).map fun r => (r.w.getD (0, 0)).2).getD d
theorem look_last (s : Sto) (room : Int) : s.look room = lastN (s.q.mine room) ((s.d.shown[room.toNat]?).getD 0) := by
  unfold Sto.look lastN
  cases (s.q.mine room).getLast? <;> rfl
theorem lastN_map (l : List Rq) (d : Int) : lastN (l.map Rq.inc) d = lastN l d := by
  unfold lastN
  rw [List.getLast?_map, Option.map_map]
  rfl
theorem lastN_one (r : Rq) (d : Int) : lastN [r] d = (r.w.getD (0, 0)).2 := rfl
theorem lastN_two (r x : Rq) (xs : List Rq) (d e : Int) : lastN (x :: xs) d = lastN (r :: x :: xs) e := by
  unfold lastN
  rw [List.getLast?_cons_cons]
  cases hg : (x :: xs).getLast? with
  | none => simp at hg
  | some z => rfl
theorem serve_look {s : Sto} {B : Nat} (ok : s.Ok B) (hne : s.q.row ≠ []) {room : Int} (h0 : 0 ≤ room) : s.serve.look room = s.look room := by
  obtain ⟨r, hr, e, _⟩ := serve_eq hne
  rw [e]
  have hm := List.mem_of_getElem? hr
  have hlt := (List.getElem?_eq_some_iff.mp hr).1
  have erow : s.q.row = s.q.row.take s.q.pick ++ r :: s.q.row.drop (s.q.pick + 1) := by
    conv => lhs; rw [← List.take_append_drop s.q.pick s.q.row]
    rw [← List.getElem_cons_drop hlt, (List.getElem?_eq_some_iff.mp hr).2]
  have em : s.q.mine room = (s.q.row.take s.q.pick).filter (fun o => decide (roomV o.w = .int room)) ++ (r :: s.q.row.drop (s.q.pick + 1)).filter (fun o => decide (roomV o.w = .int room)) := by
    unfold Que.mine
    conv => lhs; rw [erow]
    rw [List.filter_append]
  have em2 := mine_served ok.inc hr room
  rw [List.filter_append] at em2
  rw [look_last, look_last]
  dsimp only
  rw [em2, lastN_map, em]
  by_cases hin : roomV r.w = .int room
  · obtain ⟨num, hw⟩ : ∃ num, r.w = some (room, num) := by
      cases hw : r.w with
      | none =>
        rw [hw] at hin
        cases hin
      | some p =>
        obtain ⟨p1, p2⟩ := p
        rw [hw] at hin
        exact ⟨p2, by rw [show p1 = room from V.int.inj hin]⟩
    have hf := pick_first ok.inc hr hw
    have t0 : (s.q.row.take s.q.pick).filter (fun o => decide (roomV o.w = .int room)) = [] := by
      rw [List.filter_eq_nil_iff]
      intro o ho z
      obtain ⟨j, hj⟩ := List.getElem?_of_mem ho
      have hjl : j < s.q.pick := by
        have := (List.getElem?_eq_some_iff.mp hj).1
        rw [List.length_take] at this
        omega
      rw [List.getElem?_take_of_lt hjl] at hj
      exact hf j hjl o hj (of_decide_eq_true z)
    rw [t0, List.nil_append, List.nil_append, List.filter_cons_of_pos (by simpa using hin)]
    cases hl : (s.q.row.drop (s.q.pick + 1)).filter (fun o => decide (roomV o.w = .int room)) with
    | nil =>
      rw [lastN_one]
      have ro := ok.rq r hm _ hw
      have et : s.d.take r = s.d.write room num := by
        unfold Dsk.take
        rw [hw]
      show ((s.d.take r).shown[room.toNat]?).getD 0 = (r.w.getD (0, 0)).2
      rw [et, shown_write ok.ne, hw]
      unfold setP
      dsimp only
      rw [List.getElem?_set_self (by rw [Dsk.shown_len]; omega)]
      rfl
    | cons x xs => exact lastN_two r x xs _ _
  · rw [List.filter_cons_of_neg (by simpa using hin)]
    have es : ((s.d.take r).shown[room.toNat]?).getD 0 = (s.d.shown[room.toNat]?).getD 0 := by
      unfold Dsk.take
      split
      · rw [shown_barrier]
      · rename_i p hp
        rw [shown_write ok.ne]
        unfold setP
        dsimp only
        have ro := ok.rq r hm _ hp
        have : p.1 ≠ room := fun z => hin (by rw [hp]; show V.int p.1 = _; rw [z])
        rw [List.getElem?_set_ne (by omega)]
    rw [es]
theorem serve_tr {s : Sto} {B : Nat} (h : s.Tr) (ok : s.Ok B) (hne : s.q.row ≠ []) : s.serve.Tr ∧ ∀ r, 0 ≤ r → s.serve.view r = s.view r := by
  have ef : s.serve.frs = s.frs := by
    obtain ⟨r, hr, e, _⟩ := serve_eq hne
    rw [e]
  refine ⟨⟨by rw [ef]; exact h.nd, fun f hf hd => ?_⟩, fun r hr => ?_⟩
  · rw [ef] at hf
    rw [serve_look ok hne (ok.fr f hf).1]
    exact h.cl f hf hd
  · unfold Sto.view Sto.own
    rw [ef, serve_look ok hne hr]
theorem drain_tr : ∀ (n : Nat) {s : Sto} {B : Nat}, s.Tr → s.Ok B → n ≤ s.q.row.length → (drain n s).Tr ∧ (∀ r, 0 ≤ r → (drain n s).view r = s.view r) ∧ (drain n s).frs = s.frs
  | 0, s, B, h, _, _ => ⟨h, fun _ _ => rfl, rfl⟩
  | n + 1, s, B, h, ok, hn => by
    have hne : s.q.row ≠ [] := fun z => by
      rw [z] at hn
      simp at hn
    have ef : s.serve.frs = s.frs := by
      obtain ⟨r, hr, e, _⟩ := serve_eq hne
      rw [e]
    obtain ⟨h1, v1⟩ := serve_tr h ok hne
    obtain ⟨o1, l1⟩ := serve_ok ok hne
    obtain ⟨h2, v2, f2⟩ := drain_tr n h1 o1 (by omega)
    exact ⟨h2, fun r hr => (v2 r hr).trans (v1 r hr), f2.trans ef⟩
theorem flush_shown (d : Dsk) : d.flush.shown = d.shown := by
  show ([[]] : List (List (Int × Int))).flatten.foldl setP d.shown = d.shown
  rfl
/-- a sync: the view stays, and the disk has it -/
theorem sync_tr {s : Sto} {B : Nat} (h : s.Tr) (ok : s.Ok B) : s.sync.Tr ∧ (∀ r, 0 ≤ r → s.sync.view r = s.view r) ∧ ∀ r : Int, 0 ≤ r → r < s.d.sure.length → s.sync.d.sure[r.toNat]? = some (s.view r) := by
  obtain ⟨h1, v1⟩ := order_tr h
  have o1 := order_ok ok
  obtain ⟨h2, v2, f2⟩ := drain_tr _ h1 o1 (Nat.le_refl _)
  obtain ⟨o2, r2⟩ := drained_ok o1
  have lk : ∀ r, s.sync.look r = s.order.drained.look r := fun r => by
    unfold Sto.look Sto.sync
    dsimp only
    rw [flush_shown]
  have hv : ∀ r, 0 ≤ r → s.sync.view r = s.view r := fun r hr => by
    have : s.sync.view r = s.order.drained.view r := by
      unfold Sto.view
      rw [lk]
      rfl
    rw [this]
    exact (v2 r hr).trans (v1 r)
  refine ⟨⟨h2.nd, fun f hf hd => (h2.cl f hf hd).trans (lk _).symm⟩, hv, fun r hr hlt => ?_⟩
  have dv : s.order.drained.view r = s.order.drained.look r := by
    by_cases hx : ∃ f ∈ s.order.drained.frs, f.room = r
    · obtain ⟨f, hf, rfl⟩ := hx
      refine (view_of (s := s.order.drained) h2.nd hf).trans (h2.cl f hf ?_)
      unfold Sto.drained at hf
      rw [f2] at hf
      exact order_clean hf
    · exact view_no fun f hf e => hx ⟨f, hf, e⟩
  have ml : s.order.drained.look r = (s.order.drained.d.shown[r.toNat]?).getD 0 := by
    unfold Sto.look Que.mine
    rw [r2]
    rfl
  have len : s.order.drained.d.sure.length = s.d.sure.length := by
    have := act_rooms s .sync
    have e2 : (s.act .sync).d.sure.length = s.order.drained.d.shown.length := rfl
    rw [e2, Dsk.shown_len] at this
    exact this
  show s.order.drained.d.shown[r.toNat]? = _
  rw [Dsk.look_at (s := s.order.drained.d) hr (by rw [len]; exact hlt), ← ml, ← dv]
  congr 1
  exact (v2 r hr).trans (v1 r)
theorem new_tr (mf md pat : Int) (d : Dsk) : (Sto.new mf md pat d).Tr ∧ ∀ r, (Sto.new mf md pat d).view r = (d.shown[r.toNat]?).getD 0 := ⟨⟨List.nodup_nil, fun f hf => by cases hf⟩, fun r => rfl⟩
end SY

/-! ## Prog, part S: pairs, cuts, answers -/
namespace SY
open PySem PySem.Spec PyProof.Rows L2 XB
structure PFA (K : PySem.W.Frag) : Prop extends PF K where
  cl_Left : Cls K (He.ga K "Left")
  cl_Never : Cls K (He.ga K "Never")
  na_Left_lot : NoAttr K (He.ga K "Left") "lot"
  na_Left_kept : NoAttr K (He.ga K "Left") "kept"
  na_Never_missing : NoAttr K (He.ga K "Never") "missing"
  io_Left : InsOk K (He.ga K "Left")
  ki_Left : PySem.W.kitOne K (.ref (He.ga K "Left")) (.ref (He.ga K "Left")) = some true
  io_Never : InsOk K (He.ga K "Never")
  ki_Left_Never : PySem.W.kitOne K (.ref (He.ga K "Left")) (.ref (He.ga K "Never")) = some false
  ki_Left_Answer : PySem.W.kitOne K (.ref (He.ga K "Left")) (.ref (He.ga K "Answer")) = some true
  ki_Never : PySem.W.kitOne K (.ref (He.ga K "Never")) (.ref (He.ga K "Never")) = some true
  ki_Never_Left : PySem.W.kitOne K (.ref (He.ga K "Never")) (.ref (He.ga K "Left")) = some false
  ki_Never_Answer : PySem.W.kitOne K (.ref (He.ga K "Never")) (.ref (He.ga K "Answer")) = some true
section
variable {K : PySem.W.Frag} {H : Hp} {σ : L2.St} {l : Addr} {i1 i2 : Nat} {tt : TT} {te : TE}
/-- [e for a, b in l if t], l a list of pairs -/
theorem comp_pairs {Qd : Addr → Hp → Prop} {ts : List Addr} {ps : List (Int × Int)} (pr : Int × Int → Bool) (g : Int × Int → V) (hA : All2 (TupAt H) ts ps) (hl : SqL K H l (ts.map V.ref)) (hz : ps.length ≤ 16000000)
    (ht : ∀ p, p ∈ ps → ∀ H1, Same H H1 → ∀ Rb : Bool → Hp → Prop, (∀ H2, Same H1 H2 → Rb (pr p) H2) → tt (((wipe σ [i1, i2]).set i1 (some (.int p.1))).set i2 (some (.int p.2))) H1 Rb)
    (he : ∀ p, p ∈ ps → ∀ H1, Same H H1 → ∀ R : VK, (∀ H2, Same H1 H2 → R (g p) H2) → te (((wipe σ [i1, i2]).set i1 (some (.int p.1))).set i2 (some (.int p.2))) H1 R)
    (k : ∀ p H1, H p = none → Same H H1 → H1 p = some (.lst ((ps.filter pr).map g)) → Qd p H1) :
    ∀ D, H D = none → ∃ W : Nat → Nat → Hp → Prop, (∃ m, W 0 m (upd H D (.lst []))) ∧ ∀ n m H, W n m H →
      ((Itl K l).stop n H ∧ Qd D H) ∨ ((Itl K l).go n H ∧ ∃ Nx : Hp → Prop, (∀ H', Nx H' → ∃ m', m' < m ∧ W (n + 1) m' H') ∧ ∀ x H', (Itl K l).yld n H x H' → gTup K 2 (gCons (gName i1) (gCons (gName i2) gNil)) x (wipe σ [i1, i2]) H' fun σ2 H2 => wipe σ2 [i1, i2] = wipe σ [i1, i2] ∧ tt σ2 H2 fun b H3 =>
        if b = true then te σ2 H3 fun y H4 => ∃ acc, H4 D = some (.lst acc) ∧ acc.length < sizeLine ∧ Nx (upd H4 D (.lst (acc ++ [y]))) else Nx H3) := by
  intro D hD
  have len := hA.len
  have w2 : ∀ x y : Option V, wipe (((wipe σ [i1, i2]).set i1 x).set i2 y) [i1, i2] = wipe σ [i1, i2] := fun x y => by
    refine List.ext_getElem? fun j => ?_
    simp only [wipe, List.getElem?_set, List.length_set]
    repeat' split
    all_goals first | rfl | omega
  refine lc_list (K := K) (a := l) (xs := ts.map V.ref) (fun n H1 => Same H H1 ∧ H1 D = some (.lst (((ps.take n).filter pr).map g))) ⟨same_upd hD, by rw [upd_same]; simp⟩ (fun n H1 _ h => h.1.seq hl) ?_ ?_
  · rintro n x H1 hx ⟨s1, hv⟩
    rw [List.getElem?_map] at hx
    obtain ⟨a, ha, rfl⟩ := Option.map_eq_some_iff.mp hx
    obtain ⟨p, hp, r⟩ := hA.get ha
    have hm := List.mem_of_getElem? hp
    refine ⟨a, _, rfl, SqT.of (s1 _ _ r), rfl, _, _, rfl, _, _, rfl, rfl, w2 _ _, ht p hm H1 s1 _ fun H2 s2 => ?_⟩
    have hv2 := s2 _ _ hv
    cases hb : pr p with
    | false =>
      rw [if_neg Bool.false_ne_true]
      refine ⟨s1.trans s2, ?_⟩
      rw [hv2, take_one hp, List.filter_append]
      simp [hb]
    | true =>
      rw [if_pos rfl]
      refine he p hm H2 (s1.trans s2) _ fun H3 s3 => ⟨_, s3 _ _ hv2, sz_lt ?_, upd_new ((s1.trans s2).trans s3) hD, ?_⟩
      · rw [List.length_map]
        refine Nat.le_trans (List.length_filter_le _ _) (Nat.le_trans ?_ hz)
        rw [List.length_take]
        omega
      · rw [upd_same, take_one hp, List.filter_append, List.map_append]
        simp [hb]
  · rintro H1 ⟨s1, hv⟩
    rw [List.length_map, len, List.take_length] at hv
    exact k D H1 hD s1 hv
/-- [e for at, x in enumerate(l) if t], l a list of whole numbers -/
theorem comp_enum {Qd : Addr → Hp → Prop} {ys : List Int} (pr : Nat → Int → Bool) (P : Addr → Nat × Int → V → Hp → Prop) (hP : ∀ D y v H1 H2, (∀ b o, H1 b = some o → b ≠ D → H2 b = some o) → P D y v H1 → P D y v H2) (hl : SqL K H l (ys.map V.int)) (hz : ys.length ≤ 16000000)
    (ht : ∀ i y, ys[i]? = some y → ∀ H1, Same H H1 → ∀ Rb : Bool → Hp → Prop, (∀ H2, Same H1 H2 → Rb (pr i y) H2) → tt (((wipe σ [i1, i2]).set i1 (some (.int (i : Nat)))).set i2 (some (.int y))) H1 Rb)
    (he : ∀ D acc, H D = none → ∀ i y, ys[i]? = some y → pr i y = true → ∀ H1, Same H H1 → H1 D = some (.lst acc) → ∀ R : VK, (∀ v H2, Same H1 H2 → P D (i, y) v H2 → R v H2) → te (((wipe σ [i1, i2]).set i1 (some (.int (i : Nat)))).set i2 (some (.int y))) H1 R)
    (k : ∀ p vs H1, H p = none → Same H H1 → H1 p = some (.lst vs) → All2 (fun y v => P p y v H1) (((List.range ys.length).zip ys).filter fun q => pr q.1 q.2) vs → Qd p H1) :
    ∀ D, H D = none → ∃ W : Nat → Nat → Hp → Prop, (∃ m, W 0 m (upd H D (.lst []))) ∧ ∀ n m H, W n m H →
      ((Ite K l).stop n H ∧ Qd D H) ∨ ((Ite K l).go n H ∧ ∃ Nx : Hp → Prop, (∀ H', Nx H' → ∃ m', m' < m ∧ W (n + 1) m' H') ∧ ∀ x H', (Ite K l).yld n H x H' → gTup K 2 (gCons (gName i1) (gCons (gName i2) gNil)) x (wipe σ [i1, i2]) H' fun σ2 H2 => wipe σ2 [i1, i2] = wipe σ [i1, i2] ∧ tt σ2 H2 fun b H3 =>
        if b = true then te σ2 H3 fun y H4 => ∃ acc, H4 D = some (.lst acc) ∧ acc.length < sizeLine ∧ Nx (upd H4 D (.lst (acc ++ [y]))) else Nx H3) := by
  intro D hD
  have w2 : ∀ x y : Option V, wipe (((wipe σ [i1, i2]).set i1 x).set i2 y) [i1, i2] = wipe σ [i1, i2] := fun x y => by
    refine List.ext_getElem? fun j => ?_
    simp only [wipe, List.getElem?_set, List.length_set]
    repeat' split
    all_goals first | rfl | omega
  have lxs : (ys.map V.int).length = ys.length := List.length_map _
  have tz : ∀ (n : Nat) (y : Int), n < ys.length → ys[n]? = some y → ((List.range ys.length).zip ys).take (n + 1) = ((List.range ys.length).zip ys).take n ++ [(n, y)] := fun n y hn hy => take_one (by
    rw [List.getElem?_zip_eq_some]
    exact ⟨by rw [List.getElem?_range hn], hy⟩)
  refine lc_it (walk_enum (K := K) (a := l) (xs := ys.map V.int)) (fun n H1 => Same H H1 ∧ ∃ vs, H1 D = some (.lst vs) ∧ All2 (fun y v => P D y v H1) ((((List.range ys.length).zip ys).take n).filter fun q => pr q.1 q.2) vs ∧ vs.length ≤ n) ⟨same_upd hD, [], upd_same, by rw [List.take_zero]; exact .nil, Nat.le_refl _⟩ (fun n H1 _ h => h.1.seq hl) ?_ ?_
  · rintro n x H1 H' hn ⟨s1, vs, hv, hA, hlen⟩ ⟨T, u, w, rfl, hT, rfl, h1, h2⟩
    cases h1
    dsimp only at h2
    rw [List.getElem?_map] at h2
    obtain ⟨y, hy, rfl⟩ := Option.map_eq_some_iff.mp h2
    have sT := same_upd (o := .tup [.int (n : Nat), .int y]) hT
    have s2 := s1.trans sT
    refine ⟨T, _, rfl, SqT.of upd_same, rfl, _, _, rfl, _, _, rfl, rfl, w2 _ _, ht n y hy _ s2 _ fun H2 s3 => ?_⟩
    have hv2 := s3 _ _ (sT _ _ hv)
    have kd : ∀ b o, H1 b = some o → H2 b = some o := fun b o e => s3 _ _ (sT _ _ e)
    cases hb : pr n y with
    | false =>
      rw [if_neg Bool.false_ne_true]
      refine ⟨s2.trans s3, vs, hv2, ?_, by omega⟩
      rw [tz n y (by omega) hy, List.filter_append]
      simp only [List.filter_cons, hb, Bool.false_eq_true, if_false, List.filter_nil, List.append_nil]
      exact hA.imp fun y v _ _ h => hP D y v _ _ (fun b o e _ => kd b o e) h
    | true =>
      rw [if_pos rfl]
      refine he D vs hD n y hy hb H2 (s2.trans s3) hv2 _ fun v H3 s4 hp => ?_
      have hv3 := s4 _ _ hv2
      refine ⟨vs, hv3, sz_lt (by omega), upd_new ((s2.trans s3).trans s4) hD, vs ++ [v], upd_same, ?_, by rw [List.length_append, List.length_singleton]; omega⟩
      rw [tz n y (by omega) hy, List.filter_append]
      simp only [List.filter_cons, hb, if_true, List.filter_nil]
      have kd2 : ∀ b o, H3 b = some o → b ≠ D → (upd H3 D (.lst (vs ++ [v]))) b = some o := fun b o e n => by
        rw [upd_ne n]
        exact e
      exact (hA.imp fun y v _ _ h => hP D y v _ _ kd2 (hP D y v _ _ (fun b o e _ => s4 _ _ (kd b o e)) h)).append (.one (hP D _ v _ _ kd2 hp))
  · rintro H1 ⟨s1, vs, hv, hA, _⟩
    rw [lxs] at hA
    have : ((List.range ys.length).zip ys).take ys.length = (List.range ys.length).zip ys := List.take_of_length_le (by rw [List.length_zip, List.length_range]; omega)
    rw [this] at hA
    exact k D vs H1 hD s1 hv hA
end
theorem inV_ints (n : Int) : ∀ ns : List Int, inV (.int n) (ns.map V.int) = decide (n ∈ ns)
  | [] => rfl
  | x :: ns => by
    have ih := inV_ints n ns
    unfold inV at ih ⊢
    rw [List.map_cons, List.any_cons, ih]
    have e : eqV (.int x) (.int n) = decide (x = n) := rfl
    rw [e, Bool.eq_iff_iff]
    simp only [Bool.or_eq_true, decide_eq_true_eq, List.mem_cons]
    constructor
    · rintro (h | h)
      · exact .inl h.symm
      · exact .inr h
    · rintro (h | h)
      · exact .inl h.symm
      · exact .inr h
theorem flat_ints : ∀ ns : List Int, (ns.map V.int).all flatV = true
  | [] => rfl
  | n :: ns => by
    rw [List.map_cons, List.all_cons, flat_ints ns]
    rfl
theorem eqv_pair (p q : Int × Int) : PyData.eqv (pairD p) (pairD q) = decide (p = q) := by
  obtain ⟨p1, p2⟩ := p
  obtain ⟨q1, q2⟩ := q
  unfold pairD
  rw [PyData.eqv, PyData.eqvAll, PyData.eqvAll, PyData.eqvAll, PyData.eqv, PyData.eqv, Bool.eq_iff_iff]
  simp
theorem any_pair (p : Int × Int) : ∀ l : List (Int × Int), ((l.map pairD).any fun z => PyData.eqv z (pairD p)) = decide (p ∈ l)
  | [] => by simp
  | x :: l => by
    rw [List.map_cons, List.any_cons, any_pair p l, eqv_pair, Bool.eq_iff_iff]
    simp only [Bool.or_eq_true, decide_eq_true_eq, List.mem_cons]
    constructor
    · rintro (h | h)
      · exact .inl h.symm
      · exact .inr h
    · rintro (h | h)
      · exact .inl h.symm
      · exact .inr h
theorem lay_pairs : ∀ l : List (Int × Int), PyData.canLayAll0 (l.map pairD) = true ∧ PyData.depthAll (l.map pairD) ≤ 1
  | [] => ⟨rfl, Nat.zero_le _⟩
  | x :: l => by
    obtain ⟨a, b⟩ := lay_pairs l
    refine ⟨?_, ?_⟩
    · rw [List.map_cons, PyData.canLayAll0, a]
      unfold pairD
      rw [PyData.canLay0, PyData.canLayAll0, PyData.canLayAll0, PyData.canLayAll0, PyData.canLay0, PyData.canLay0]
      rfl
    · rw [List.map_cons, PyData.depthAll]
      have : (pairD x).depth = 1 := by
        unfold pairD
        rw [PyData.depth, PyData.depthAll, PyData.depthAll, PyData.depthAll, PyData.depth, PyData.depth]
        rfl
      omega
theorem shaped_pair (p : Int × Int) : SeqAt.shaped (pairD p) = true := by
  have := lay_pairs [p]
  unfold SeqAt.shaped
  rw [List.map_cons, PyData.canLayAll0, PyData.depthAll, Bool.and_eq_true] at this
  rw [Bool.and_eq_true]
  exact ⟨this.1.1, decide_eq_true (by have := this.2; omega)⟩
theorem shaped_lot (l : List (Int × Int)) : SeqAt.shaped (lotD l) = true := by
  have := lay_pairs l
  unfold SeqAt.shaped lotD
  rw [PyData.canLay0, this.1, PyData.depth]
  exact decide_eq_true (by have := this.2; omega)
theorem lay_ints : ∀ l : List Int, PyData.canLayAll0 (l.map .int) = true ∧ PyData.depthAll (l.map .int) = 0
  | [] => ⟨rfl, rfl⟩
  | x :: l => by
    obtain ⟨a, b⟩ := lay_ints l
    rw [List.map_cons, PyData.canLayAll0, a, PyData.depthAll, b, PyData.canLay0, PyData.depth]
    exact ⟨rfl, rfl⟩
theorem shaped_ints (l : List Int) : SeqAt.shaped (intsD l) = true := by
  have := lay_ints l
  unfold SeqAt.shaped intsD
  rw [PyData.canLay0, this.1, PyData.depth, this.2]
  rfl
theorem eqv_ints : ∀ l m : List Int, PyData.eqv (intsD l) (intsD m) = decide (l = m) := by
  intro l m
  unfold intsD
  rw [PyData.eqv]
  induction l generalizing m with
  | nil => cases m <;> rfl
  | cons x l ih =>
    cases m with
    | nil => rfl
    | cons y m =>
      rw [List.map_cons, List.map_cons, PyData.eqvAll, ih m, PyData.eqv, Bool.eq_iff_iff]
      simp
/-- .. whether a pair stands in a list of pairs -/
theorem seqT_fr {K : PySem.W.Frag} {H : Hp} {t : Addr} {p : Int × Int} (h : TupAt H t p) : Dp K H (.ref t) (pairD p) := .tup (SqT.of h) (.cons (.int _) (.cons (.int _) .nil))
def sp_is_pair (K : PySem.W.Frag) : Sp := fun vs H Q _ => ∃ t p rooms, vs = [.ref t, .int rooms] ∧ TupAt H t p ∧ Q (.bl (decide (0 ≤ p.1) && decide (p.1 ≤ rooms - 1))) H
def t_is_pair (K : PySem.W.Frag) : TS := (tRet (tAndV (tCB (rIsi K) (tCons (tVar 0) (tCons (tC (.ty "tuple")) tNil))) (tAndV (tOp rEq (tCB (xLen K) (tCons (tVar 0) tNil)) (tC (.int 2))) (tAndV (tCall (sp_within K) [] E0 (tCons (tOp (rIxT K) (tVar 0) (tC (.int 0))) (tCons (tC (.int 0)) (tCons (tOp xSub (tVar 1) (tC (.int 1))) tNil)))) (tCall (sp_is_whole K) [] E0 (tCons (tOp (rIxT K) (tVar 0) (tC (.int 1))) tNil))))))
theorem len_is_pair {K : PySem.W.Frag} (vs : List V) (H : Hp) (Q : VK) (E : XK) (h : sp_is_pair K vs H Q E) : vs.length = (["thing", "rooms"] : List Str).length := by
  unfold sp_is_pair at h
  repeat (first | (obtain ⟨e, _⟩ := h; rw [e]; done) | (obtain ⟨e, _⟩ := h; rw [e]; rfl; done) | obtain ⟨_, h⟩ := h)
theorem pure_is_pair {K : PySem.W.Frag} (pf : PF K) {vs : List V} {H : Hp} {Q : VK} {E : XK} (h : sp_is_pair K vs H Q E) : t_is_pair K { nx := fun _ H' => Q .non H', rt := Q } (start ["thing", "rooms"] vs) H := by
  obtain ⟨t, p, rooms, rfl, h, q⟩ := h
  refine ⟨_, rfl, .ref t, .ty "tuple", _, _, true, rfl, .ty _, .base (.tup h), kit_ty (by decide +kernel), _, rfl, iteT ?_⟩
  refine ⟨_, rfl, t, _, rfl, .inr (SqT.of h), rfl, _, rfl, iteT ?_⟩
  refine ⟨_, rfl, t, _, 0, .int p.1, rfl, rfl, SqT.of h, rfl, _, rfl, _, _, rfl, rfl, p.1, 0, rooms - 1, rfl, _, rfl, ?_⟩
  cases hb : decide (0 ≤ p.1) && decide (p.1 ≤ rooms - 1) with
  | false =>
    refine iteF ?_
    rw [hb] at q
    exact q
  | true =>
    refine iteT ?_
    rw [hb] at q
    exact ⟨_, rfl, t, _, 1, .int p.2, rfl, rfl, SqT.of h, rfl, .int p.2, "int", true, false, rfl, .base (.int _), by decide +kernel, by decide +kernel, q⟩
def fnk (w : List (Int × Int)) (rooms : Int) : List (Int × Int) → Int → Nat → Option Nat
  | [], _, _ => none
  | p :: ps, last, at_ => if (!(decide (0 ≤ p.1) && decide (p.1 ≤ rooms - 1)) || (decide (p.1 ≤ last) || !decide (p ∈ w))) = true then some at_ else fnk w rooms ps p.1 (at_ + 1)
def optV : Option Nat → V
  | none => .non
  | some n => .int (n : Nat)
def sp_first_not_kept (K : PySem.W.Frag) : Sp := fun vs H Q _ => ∃ wa w ka ks rooms, vs = [.ref wa, .ref ka, .int rooms] ∧ LotAt H wa w ∧ LotAt H ka ks ∧ ∀ H', Same H H' → Q (optV (fnk w rooms ks (-1) 0)) H'
def t_first_not_kept (K : PySem.W.Frag) : TS := (tSeq (tAsg (tUn xNeg (tC (.int 1))) (gName 3))
    (tSeq (tFor (iEnum K (tCons (tVar 1) tNil)) (gTup K 2 (gCons (gName 4) (gCons (gName 5) gNil))) (tSeq (tIfS (tOr (tNot (tB (tCall (sp_is_pair K) [] E0 (tCons (tVar 5) (tCons (tVar 2) tNil))))) (tOr (tTest (tOp xLe (tOp (rIxT K) (tVar 5) (tC (.int 0))) (tVar 3))) (tTest (tOp (rNotInD K) (tVar 5) (tVar 0))))) (tRet (tVar 4)) tNext)
    (tAsg (tOp (rIxT K) (tVar 5) (tC (.int 0))) (gName 3))))
    (tRet (tC .non))))
theorem len_first_not_kept {K : PySem.W.Frag} (vs : List V) (H : Hp) (Q : VK) (E : XK) (h : sp_first_not_kept K vs H Q E) : vs.length = (["writes", "kept", "rooms"] : List Str).length := by
  unfold sp_first_not_kept at h
  repeat (first | (obtain ⟨e, _⟩ := h; rw [e]; done) | (obtain ⟨e, _⟩ := h; rw [e]; rfl; done) | obtain ⟨_, h⟩ := h)
theorem pure_first_not_kept {K : PySem.W.Frag} (pf : PF K) {vs : List V} {H : Hp} {Q : VK} {E : XK} (h : sp_first_not_kept K vs H Q E) : t_first_not_kept K { nx := fun _ H' => Q .non H', rt := Q } (start ["writes", "kept", "rooms", "last", "at", "pair"] vs) H := by
  obtain ⟨wa, w, ka, ks, rooms, rfl, ⟨ws, hw, tw⟩, ⟨kts, hk, tk⟩, q⟩ := h
  refine ⟨_, rfl, _, rfl, ka, _, rfl, SqL.of hk, ?_⟩
  refine for_it walk_enum (fun n σ H1 => Same H H1 ∧ ∃ last v4 v5, σ = [some (.ref wa), some (.ref ka), some (.int rooms), some (.int last), v4, v5] ∧ fnk w rooms ks (-1) 0 = fnk w rooms (ks.drop n) last n) ⟨Same.refl _, -1, _, _, rfl, rfl⟩ (fun n σ H1 _ h1 => SqL.of (h1.1 _ _ hk)) ?_ ?_
  · rintro n x σ H1 H' hn ⟨s1, last, v4, v5, rfl, ef⟩ ⟨T, u, y, rfl, hT, rfl, h1, h2⟩
    cases h1
    dsimp only at h2
    rw [List.getElem?_map] at h2
    obtain ⟨t, ht, rfl⟩ := Option.map_eq_some_iff.mp h2
    obtain ⟨p, hp, tp⟩ := tk.get ht
    have sT := same_upd (o := .tup [.int (n : Nat), .ref t]) hT
    have s2 := s1.trans sT
    have tp2 : TupAt (upd H1 T (.tup [.int (n : Nat), .ref t])) t p := s2 _ _ tp
    have hw2 := s2 _ _ hw
    have hn2 := (List.getElem?_eq_some_iff.mp hp).1
    have ed : ks.drop n = p :: ks.drop (n + 1) := by
      rw [← List.getElem_cons_drop hn2]
      congr 1
      exact (List.getElem?_eq_some_iff.mp hp).2
    rw [ed, fnk] at ef
    have fin : ∀ b, (!(decide (0 ≤ p.1) && decide (p.1 ≤ rooms - 1)) || (decide (p.1 ≤ last) || !decide (p ∈ w))) = b → (b = true → Q (.int (n : Nat)) (upd H1 T (.tup [.int (n : Nat), .ref t]))) := by
      rintro b e rfl
      have := q _ s2
      rw [ef, if_pos e] at this
      exact this
    refine ⟨T, _, rfl, SqT.of upd_same, rfl, _, _, rfl, _, _, rfl, rfl, ?_⟩
    refine ⟨_, rfl, _, rfl, t, p, rooms, rfl, tp2, _, rfl, ?_⟩
    cases b1 : (decide (0 ≤ p.1) && decide (p.1 ≤ rooms - 1)) with
    | false =>
      refine iteT (iteT ⟨_, rfl, fin true ?_ rfl⟩)
      rw [b1]
      rfl
    | true =>
      refine iteF ?_
      refine ⟨_, rfl, t, _, 0, .int p.1, rfl, rfl, SqT.of tp2, rfl, _, rfl, _, _, rfl, rfl, _, rfl, ?_⟩
      cases b2 : decide (p.1 ≤ last) with
      | true =>
        refine iteT (iteT ⟨_, rfl, fin true ?_ rfl⟩)
        rw [b1, b2]
        rfl
      | false =>
        refine iteF ?_
        refine ⟨_, rfl, _, rfl, pairD p, w.map pairD, seqT_fr tp2, .lst (SqL.of hw2) (dp_pairs (tw.imp fun t p _ _ e => s2 _ _ e)), shaped_pair p, shaped_lot w, _, rfl, ?_⟩
        rw [any_pair]
        cases b3 : decide (p ∈ w) with
        | false =>
          refine iteT ⟨_, rfl, fin true ?_ rfl⟩
          rw [b1, b2, b3]
          rfl
        | true =>
          refine iteF ?_
          refine ⟨_, rfl, t, _, 0, .int p.1, rfl, rfl, SqT.of tp2, rfl, s2, p.1, _, _, rfl, ?_⟩
          rw [ef, b1, b2, b3]
          rfl
  · rintro σ H1 ⟨s1, last, v4, v5, rfl, ef⟩
    have := q H1 s1
    rw [ef, List.length_map, tk.len, List.drop_length] at this
    exact this
def mayHave (d : Dsk) (lot : Nat) (room : Int) : List Int := ((d.with_ lot)[room.toNat]?).getD 0 :: (((d.lots[lot]?).getD []).filter fun p => decide (p.1 = room)).map (·.2)
def sp_may_have (K : PySem.W.Frag) : Sp := fun vs H Q _ => ∃ L s lot room, vs = [.ref L.d, .int (lot : Nat), .int room] ∧ DiskAt K H L s ∧ s.Ok ∧ lot < s.lots.length ∧ 0 ≤ room ∧ room < s.sure.length ∧ ∀ p H', H p = none → Same H H' → H' p = some (.lst ((mayHave s lot room).map V.int)) → Q (.ref p) H'
def t_may_have (K : PySem.W.Frag) : TS := (tRet (tOp rCat (tLst (tCons (tOp (rIxL K) (tMeth (He.ga K "Disk") "with_lots" (sp_Disk_with_lots K) [] E0 (tVar 0) (tCons (tVar 1) tNil)) (tVar 2)) tNil)) (tLc (iList K (tOp (rIxL K) (tFld K (tVar 0) "open_lots") (tVar 1))) (gTup K 2 (gCons (gName 3) (gCons (gName 4) gNil))) (tTest (tOp rEq (tVar 3) (tVar 2))) (tVar 4) [3, 4])))
theorem len_may_have {K : PySem.W.Frag} (vs : List V) (H : Hp) (Q : VK) (E : XK) (h : sp_may_have K vs H Q E) : vs.length = (["disk", "lot", "room"] : List Str).length := by
  unfold sp_may_have at h
  repeat (first | (obtain ⟨e, _⟩ := h; rw [e]; done) | (obtain ⟨e, _⟩ := h; rw [e]; rfl; done) | obtain ⟨_, h⟩ := h)
theorem pure_may_have {K : PySem.W.Frag} (pf : PF K) {vs : List V} {H : Hp} {Q : VK} {E : XK} (h : sp_may_have K vs H Q E) : t_may_have K { nx := fun _ H' => Q .non H', rt := Q } (start ["disk", "lot", "room", "here", "number"] vs) H := by
  obtain ⟨L, s, lot, room, rfl, h, ok, hl, h0, h1, q⟩ := h
  obtain ⟨dx, ho⟩ := h.ob
  have hlen : room.toNat < (s.with_ lot).length := by
    rw [Dsk.with_len]
    omega
  refine ⟨_, rfl, L.d, dx, _, rfl, ho, rfl, _, rfl, L, s, lot, rfl, h, ok, by omega, fun p H1 hp s1 e1 => ?_⟩
  refine ⟨_, rfl, p, _, room, .int (((s.with_ lot)[room.toNat]?).getD 0), rfl, rfl, SqL.of e1, ?_, of_decide_eq_true rfl, fun a ha => ?_⟩
  · have : ((s.with_ lot).map V.int)[room.toNat]? = some (.int (((s.with_ lot)[room.toNat]?).getD 0)) := by
      rw [List.getElem?_map, List.getElem?_eq_getElem hlen]
      rfl
    have := atI_of this
    rw [Int.toNat_of_nonneg h0] at this
    exact this
  have s2 := s1.trans (same_upd (o := .lst [.int (((s.with_ lot)[room.toNat]?).getD 0)]) ha)
  have h2 := h.same s2
  obtain ⟨dx2, ho2⟩ := h2.ob
  obtain ⟨la, hla, ts, elt, tt⟩ := h2.lots.get2 (List.getElem?_eq_getElem hl)
  have hlot : (s.lots[lot]?).getD [] = s.lots[lot] := by
    rw [List.getElem?_eq_getElem hl]
    rfl
  have lz : s.lots[lot].length ≤ 1000000 := by
    refine Nat.le_trans ?_ ok.few
    obtain ⟨l1, l2, e⟩ := List.append_of_mem (List.getElem_mem hl)
    conv => rhs; rw [e, List.flatten_append, List.length_append, List.flatten_cons, List.length_append]
    omega
  refine ⟨_, rfl, _, _, _, _, _, rfl, ho2, pf.cl_Disk, pf.na_Disk_open_lots, rfl, _, rfl, L.lo, _, lot, .ref la, rfl, rfl, SqL.of h2.lo, atI_of ?_, la, rfl, ⟨_, SqL.of elt⟩, ?_⟩
  · rw [List.getElem?_map, hla]
    rfl
  refine comp_pairs (fun p => decide (p.1 = room)) (fun p => .int p.2) tt (SqL.of elt) (by omega) ?_ ?_ ?_
  · intro p hp H3 s3 Rb r
    refine ⟨_, rfl, _, rfl, rfl, _, rfl, ?_⟩
    rw [rooms_bl2]
    exact r H3 (Same.refl _)
  · exact fun p hp H3 s3 R r => ⟨_, rfl, r H3 (Same.refl _)⟩
  · intro c H3 hc s3 hv
    refine ⟨a, c, _, _, rfl, rfl, s3 _ _ upd_same, hv, ?_, fun d hd => ?_⟩
    · rw [List.length_map, List.length_singleton]
      refine Nat.le_trans (Nat.add_le_add_left (List.length_filter_le _ _) 1) ?_
      exact sz_ok (by omega)
    · refine q d _ (s2.free (s3.free hd)) ((s2.trans s3).trans (same_upd hd)) ?_
      rw [upd_same]
      unfold mayHave
      rw [hlot, List.map_cons, List.map_map]
      rfl
theorem fnk_none : ∀ {w : List (Int × Int)} {rooms : Int} {ps : List (Int × Int)} {last : Int} {k : Nat}, fnk w rooms ps last k = none → ∀ p ∈ ps, 0 ≤ p.1 ∧ p.1 ≤ rooms - 1 ∧ p ∈ w
  | w, rooms, [], last, k, _, p, hp => by cases hp
  | w, rooms, x :: ps, last, k, h, p, hp => by
    rw [fnk] at h
    split at h
    · cases h
    · rename_i c
      simp only [Bool.or_eq_true, not_or, Bool.not_eq_true, Bool.not_eq_false', Bool.and_eq_true, decide_eq_true_eq, decide_eq_false_iff_not] at c
      rcases List.mem_cons.mp hp with rfl | hp
      · exact ⟨c.1.1, c.1.2, c.2.2⟩
      · exact fnk_none h p hp
/-- late[room] = number, for all pairs of a list -/
theorem put_pairs {K : PySem.W.Frag} {H H0 : Hp} {D : Ends} {ka a : Addr} {ks : List (Int × Int)} {ls : List Int} {i1 i2 i3 : Nat} {σ0 : L2.St} (hk : LotAt H ka ks) (ha : H0 a = none) (s0 : Same H0 H) (hl : H a = some (.lst (ls.map V.int))) (hrg : ∀ p ∈ ks, 0 ≤ p.1 ∧ p.1 < ls.length)
    (hi3 : ∀ x y, (((σ0.set i1 x).set i2 y)[i1]? = some x) ∧ (((σ0.set i1 x).set i2 y)[i2]? = some y) ∧ (((σ0.set i1 x).set i2 y)[i3]? = some (some (.ref a))) ∧ ∀ u v, ((σ0.set i1 x).set i2 y |>.set i1 u).set i2 v = (σ0.set i1 u).set i2 v) (hs0 : ∃ x y, σ0 = (σ0.set i1 x).set i2 y)
    (hka : H0 ka ≠ none) (nx : ∀ σ' H', Same H0 H' → H' a = some (.lst ((ks.foldl setP ls).map V.int)) → (∃ x y, σ' = (σ0.set i1 x).set i2 y) → D.nx σ' H') :
    ∃ W : Nat → Nat → L2.St → Hp → Prop, (∃ m, W 0 m σ0 H) ∧ ∀ n m σ H, W n m σ H →
      ((Itl K ka).stop n H ∧ D.nx σ H) ∨ ((Itl K ka).go n H ∧ ∃ N : L2.St → Hp → Prop, (∀ σ' H', N σ' H' → ∃ m', m' < m ∧ W (n + 1) m' σ' H') ∧ ∀ x H', (Itl K ka).yld n H x H' → gTup K 2 (gCons (gName i1) (gCons (gName i2) gNil)) x σ H' fun σ2 H2 => (tAsg (tVar i2) (gSub (tVar i3) (tVar i1) rSetL)) { D with nx := N, ct := N, bk := D.nx } σ2 H2) := by
  obtain ⟨kts, hkl, tk⟩ := hk
  have nka : ka ≠ a := fun z => hka (z ▸ ha)
  have kd : ∀ {Hx : Hp} {o : HO}, (∀ b u, H b = some u → b ≠ a → Hx b = some u) → ∀ b u, H b = some u → b ≠ a → (upd Hx a o) b = some u := fun h b u e n => by
    rw [upd_ne n]
    exact h b u e n
  refine for_list (xs := kts.map V.ref) (fun n σ H1 => (∀ b u, H b = some u → b ≠ a → H1 b = some u) ∧ H1 a = some (.lst (((ks.take n).foldl setP ls).map V.int)) ∧ ∃ x y, σ = (σ0.set i1 x).set i2 y)
    ⟨fun _ _ e _ => e, hl, hs0⟩ (fun n σ H1 _ h1 => SqL.of (h1.1 _ _ hkl nka)) ?_ ?_
  · rintro n x σ H1 hx ⟨k1, hv, u, v, rfl⟩
    rw [List.getElem?_map] at hx
    obtain ⟨t, ht, rfl⟩ := Option.map_eq_some_iff.mp hx
    obtain ⟨p, hp, tp⟩ := tk.get ht
    have rg := hrg p (List.mem_of_getElem? hp)
    have tp1 := k1 _ _ tp (ne_lst_tup hl tp)
    obtain ⟨e1, e2, e3, _⟩ := hi3 (some (.int p.1)) (some (.int p.2))
    obtain ⟨_, _, _, e4⟩ := hi3 u v
    refine ⟨t, _, rfl, SqT.of tp1, rfl, _, _, rfl, _, _, rfl, rfl, ?_⟩
    show tAsg _ _ _ ((((σ0.set i1 u).set i2 v).set i1 (some (V.int p.1))).set i2 (some (V.int p.2))) H1
    rw [e4]
    have lt : p.1.toNat < (((ks.take n).foldl setP ls).map V.int).length := by
      rw [List.length_map, foldl_setP_len]
      omega
    refine ⟨_, e2, _, e3, _, e1, a, _, p.1, p.1.toNat, rfl, rfl, hv, ?_, ?_⟩
    · have e := ixN_of lt
      rw [Int.toNat_of_nonneg rg.1] at e
      exact e
    · refine ⟨kd k1, ?_, _, _, rfl⟩
      rw [upd_same, take_one hp, List.foldl_append]
      simp only [List.foldl_cons, List.foldl_nil, setP, List.map_set]
  · rintro σ H1 ⟨k1, hv, u, v, rfl⟩
    rw [List.length_map, tk.len, List.take_length] at hv
    exact nx _ H1 (fun b o e => k1 b o (s0 b o e) (ne_of_none e ha)) hv ⟨u, v, rfl⟩
/-! ### answers -/
def leftF (a b : V) : List (Str × V) := [("lot", a), ("kept", b)]
def neverF (a : V) : List (Str × V) := [("missing", a)]
def LeftAt (K : PySem.W.Frag) (H : Hp) (a : Addr) (lot : Int) (ps : List (Int × Int)) : Prop := ∃ dx kl, H a = some (.ins (He.ga K "Left") dx (leftF (.int lot) (.ref kl))) ∧ LotAt H kl ps
def NeverAt (K : PySem.W.Frag) (H : Hp) (a : Addr) (ms : List Int) : Prop := ∃ dx ml, H a = some (.ins (He.ga K "Never") dx (neverF (.ref ml))) ∧ H ml = some (.lst (ms.map V.int))
theorem lotAt_same {H H' : Hp} {a : Addr} {l : List (Int × Int)} (h : LotAt H a l) (s : Same H H') : LotAt H' a l := by
  obtain ⟨ts, e, t⟩ := h
  exact ⟨ts, s _ _ e, t.imp fun t p _ _ e => s _ _ e⟩
theorem leftAt_same {K : PySem.W.Frag} {H H' : Hp} {a : Addr} {lot : Int} {ps : List (Int × Int)} (h : LeftAt K H a lot ps) (s : Same H H') : LeftAt K H' a lot ps := by
  obtain ⟨dx, kl, e, l⟩ := h
  exact ⟨dx, kl, s _ _ e, lotAt_same l s⟩
def sp_Left_init (K : PySem.W.Frag) : Sp := fun vs H Q _ => ∃ x dx lot ka ps, vs = [.ref x, .int lot, .ref ka] ∧ H x = some (.ins (He.ga K "Left") dx []) ∧ LotAt H ka ps ∧
  ∀ kl H', (∀ b o, H b = some o → b ≠ x → H' b = some o) → H kl = none → H' x = some (.ins (He.ga K "Left") dx (leftF (.int lot) (.ref kl))) → LotAt H' kl ps → Q .non H'
def t_Left_init (K : PySem.W.Frag) : TS := (tSeq (sFld K (tVar 0) (tVar 1) "lot")
    (sFld K (tVar 0) (tCB (xList K) (tCons (tVar 2) tNil)) "kept"))
theorem len_Left_init {K : PySem.W.Frag} (vs : List V) (H : Hp) (Q : VK) (E : XK) (h : sp_Left_init K vs H Q E) : vs.length = (["self", "lot", "kept"] : List Str).length := by
  unfold sp_Left_init at h
  repeat (first | (obtain ⟨e, _⟩ := h; rw [e]; done) | (obtain ⟨e, _⟩ := h; rw [e]; rfl; done) | obtain ⟨_, h⟩ := h)
theorem pure_Left_init {K : PySem.W.Frag} (pf : PFA K) {vs : List V} {H : Hp} {Q : VK} {E : XK} (h : sp_Left_init K vs H Q E) : t_Left_init K { nx := fun _ H' => Q .non H', rt := Q } (start ["self", "lot", "kept"] vs) H := by
  obtain ⟨x, dx, lot, ka, ps, rfl, hx, ⟨ts, hk, tk⟩, q⟩ := h
  refine ⟨_, rfl, _, rfl, x, _, dx, [], rfl, hx, pf.cl_Left, pf.na_Left_lot, of_decide_eq_true rfl, ?_⟩
  have nkx : ka ≠ x := ne_ins_lst hx hk
  refine ⟨_, rfl, _, _, rfl, .inl (SqL.of ((upd_ne nkx).trans hk)), fun c hc => ?_⟩
  have ncx : c ≠ x := fun z => by
    rw [z, upd_same] at hc
    cases hc
  refine ⟨_, rfl, x, _, dx, _, rfl, (upd_ne ncx.symm).trans upd_same, pf.cl_Left, pf.na_Left_kept, of_decide_eq_true rfl, ?_⟩
  have hcH : H c = none := by
    rw [upd_ne ncx] at hc
    exact hc
  have kd : ∀ b o, H b = some o → b ≠ x → upd (upd (upd H x (.ins (He.ga K "Left") dx (putF "lot" (.int lot) []))) c (.lst (ts.map V.ref))) x (.ins (He.ga K "Left") dx (putF "kept" (.ref c) (putF "lot" (.int lot) []))) b = some o := fun b o e n => by
    rw [upd_ne n, upd_ne (ne_of_none e hcH), upd_ne n]
    exact e
  refine q c _ kd hcH upd_same ⟨ts, ?_, tk.imp fun t p _ _ e => kd _ _ e (ne_ins_tup hx e)⟩
  rw [upd_ne ncx, upd_same]
def sp_Never_init (K : PySem.W.Frag) : Sp := fun vs H Q _ => ∃ (x dx ma : Addr) (ms : List Int), vs = [.ref x, .ref ma] ∧ H x = some (.ins (He.ga K "Never") dx []) ∧ H ma = some (.lst (ms.map V.int)) ∧
  ∀ ml H', (∀ b o, H b = some o → b ≠ x → H' b = some o) → H ml = none → H' x = some (.ins (He.ga K "Never") dx (neverF (.ref ml))) → H' ml = some (.lst (ms.map V.int)) → Q .non H'
def t_Never_init (K : PySem.W.Frag) : TS := (sFld K (tVar 0) (tCB (xList K) (tCons (tVar 1) tNil)) "missing")
theorem len_Never_init {K : PySem.W.Frag} (vs : List V) (H : Hp) (Q : VK) (E : XK) (h : sp_Never_init K vs H Q E) : vs.length = (["self", "missing"] : List Str).length := by
  unfold sp_Never_init at h
  repeat (first | (obtain ⟨e, _⟩ := h; rw [e]; done) | (obtain ⟨e, _⟩ := h; rw [e]; rfl; done) | obtain ⟨_, h⟩ := h)
theorem pure_Never_init {K : PySem.W.Frag} (pf : PFA K) {vs : List V} {H : Hp} {Q : VK} {E : XK} (h : sp_Never_init K vs H Q E) : t_Never_init K { nx := fun _ H' => Q .non H', rt := Q } (start ["self", "missing"] vs) H := by
  obtain ⟨x, dx, ma, ms, rfl, hx, hm, q⟩ := h
  refine ⟨_, rfl, _, _, rfl, .inl (SqL.of hm), fun c hc => ?_⟩
  have ncx : c ≠ x := (ne_of_none hx hc).symm
  refine ⟨_, rfl, x, _, dx, [], rfl, (upd_ne ncx.symm).trans hx, pf.cl_Never, pf.na_Never_missing, of_decide_eq_true rfl, ?_⟩
  refine q c _ (fun b o e n => ?_) hc upd_same ?_
  · rw [upd_ne n, upd_ne (ne_of_none e hc)]
    exact e
  · rw [upd_ne ncx, upd_same]
def showsL (d : Dsk) (lot : Int) (ps : List (Int × Int)) (st : List Int) : Bool :=
  if (!(decide (0 ≤ lot) && decide (lot ≤ (d.lots.length : Int) - 1))) = true then false
  else if (fnk ((d.lots[lot.toNat]?).getD []) d.sure.length ps (-1) 0).isSome = true then false else decide (ps.foldl setP (d.with_ lot.toNat) = st)
def sp_Left_shows (K : PySem.W.Frag) : Sp := fun vs H Q _ => ∃ (a : Addr) (L : DL) (s : Dsk) (lot : Int) (ps : List (Int × Int)) (sa : Addr) (st : List Int), vs = [.ref a, .ref L.d, .ref sa] ∧ LeftAt K H a lot ps ∧ DiskAt K H L s ∧ s.Ok ∧ SqL K H sa (st.map V.int) ∧ ∀ H', Same H H' → Q (.bl (showsL s lot ps st)) H'
def t_Left_shows (K : PySem.W.Frag) : TS := (tSeq (tIfS (tNot (tB (tCall (sp_within K) [] E0 (tCons (tFld K (tVar 0) "lot") (tCons (tC (.int 0)) (tCons (tOp xSub (tCB (xLen K) (tCons (tFld K (tVar 1) "open_lots") tNil)) (tC (.int 1))) tNil)))))) (tRet (tC (.bl false))) tNext)
    (tSeq (tIfS (tTest (tOp xNotN (tCall (sp_first_not_kept K) [] E0 (tCons (tOp (rIxL K) (tFld K (tVar 1) "open_lots") (tFld K (tVar 0) "lot")) (tCons (tFld K (tVar 0) "kept") (tCons (tMeth (He.ga K "Disk") "rooms" (sp_Disk_rooms K) [] E0 (tVar 1) tNil) tNil)))) (tC .non))) (tRet (tC (.bl false))) tNext)
    (tSeq (tAsg (tMeth (He.ga K "Disk") "with_lots" (sp_Disk_with_lots K) [] E0 (tVar 1) (tCons (tFld K (tVar 0) "lot") tNil)) (gName 3))
    (tSeq (tFor (iList K (tFld K (tVar 0) "kept")) (gTup K 2 (gCons (gName 4) (gCons (gName 5) gNil))) (tAsg (tVar 5) (gSub (tVar 3) (tVar 4) rSetL)))
    (tRet (tOp (rEqD K) (tVar 3) (tVar 2)))))))
theorem len_Left_shows {K : PySem.W.Frag} (vs : List V) (H : Hp) (Q : VK) (E : XK) (h : sp_Left_shows K vs H Q E) : vs.length = (["self", "disk", "state"] : List Str).length := by
  unfold sp_Left_shows at h
  repeat (first | (obtain ⟨e, _⟩ := h; rw [e]; done) | (obtain ⟨e, _⟩ := h; rw [e]; rfl; done) | obtain ⟨_, h⟩ := h)
theorem pure_Left_shows {K : PySem.W.Frag} (pf : PFA K) {vs : List V} {H : Hp} {Q : VK} {E : XK} (h : sp_Left_shows K vs H Q E) : t_Left_shows K { nx := fun _ H' => Q .non H', rt := Q } (start ["self", "disk", "state", "late", "room", "number"] vs) H := by
  obtain ⟨a, L, s, lot, ps, sa, st, rfl, ⟨dx, kl, hl, lk⟩, h, ok, hs, q⟩ := h
  obtain ⟨dd, hd⟩ := h.ob
  have lz := ok.lots
  refine ⟨_, rfl, _, _, _, _, _, rfl, hl, pf.cl_Left, pf.na_Left_lot, rfl, _, rfl, _, _, _, _, _, rfl, hd, pf.cl_Disk, pf.na_Disk_open_lots, rfl, _, _, rfl, .inl (SqL.of h.lo), _, _, rfl, rfl, lot, 0, _, rfl, _, rfl, ?_⟩
  rw [List.length_map, h.lots.len]
  unfold showsL at q
  cases c1 : (!(decide (0 ≤ lot) && decide (lot ≤ (s.lots.length : Int) - 1))) with
  | true =>
    rw [c1, if_pos rfl] at q
    refine iteY (by first | exact c1 | rfl) ?_
    exact q H (Same.refl H)
  | false =>
    rw [c1, if_neg Bool.false_ne_true] at q
    refine iteN (by first | exact c1 | rfl) ?_
    simp only [Bool.not_eq_false', Bool.and_eq_true, decide_eq_true_eq] at c1
    obtain ⟨l0, l1⟩ := c1
    obtain ⟨lo, rfl⟩ := Int.eq_ofNat_of_zero_le l0
    have hlo : lo < s.lots.length := by omega
    rw [Int.toNat_natCast] at q
    obtain ⟨la, hla, lw⟩ := h.lots.get2 (List.getElem?_eq_getElem hlo)
    have hlot : (s.lots[lo]?).getD [] = s.lots[lo] := by
      rw [List.getElem?_eq_getElem hlo]
      rfl
    rw [hlot] at q
    refine ⟨_, rfl, _, _, _, _, _, rfl, hd, pf.cl_Disk, pf.na_Disk_open_lots, rfl, _, rfl, _, _, _, _, _, rfl, hl, pf.cl_Left, pf.na_Left_lot, rfl, L.lo, _, lo, .ref la, rfl, rfl, SqL.of h.lo, atI_of ?_, _, rfl, _, _, _, _, _, rfl, hl, pf.cl_Left, pf.na_Left_kept, rfl, _, rfl, L.d, dd, _, rfl, hd, rfl, L, s, rfl, h, la, s.lots[lo], kl, ps, _, rfl, lw, lk, fun H1 s1 => ?_⟩
    · rw [List.getElem?_map, hla]
      rfl
    cases hf : fnk s.lots[lo] s.sure.length ps (-1) 0 with
    | some n =>
      rw [hf] at q
      exact ⟨rfl, _, rfl, iteY rfl (q H1 s1)⟩
    | none =>
      rw [hf] at q
      refine ⟨rfl, _, rfl, iteN rfl ?_⟩
      have h1 := h.same s1
      obtain ⟨dd1, hd1⟩ := h1.ob
      have hl1 := s1 _ _ hl
      refine ⟨_, rfl, L.d, dd1, _, rfl, hd1, rfl, _, rfl, _, _, _, _, _, rfl, hl1, pf.cl_Left, pf.na_Left_lot, rfl, L, s, lo, rfl, h1, ok, by omega, fun p H2 hp s2 e2 => ?_⟩
      have hl2 := s2 _ _ hl1
      have lk2 := lotAt_same lk (s1.trans s2)
      have hkl : H1 kl ≠ none := by
        obtain ⟨ts, e, _⟩ := lotAt_same lk s1
        rw [e]
        simp
      refine ⟨_, rfl, _, _, _, _, _, rfl, hl2, pf.cl_Left, pf.na_Left_kept, rfl, _, rfl, ?_, ?_⟩
      · obtain ⟨ts, e, _⟩ := lk2
        exact ⟨_, SqL.of e⟩
      refine put_pairs (i1 := 4) (i2 := 5) (i3 := 3) (H0 := H1) (a := p) lk2 hp s2 e2 (fun pr hpr => ?_) ?_ ?_ hkl ?_
      · have := fnk_none hf pr hpr
        rw [Dsk.with_len]
        omega
      · exact fun x y => ⟨rfl, rfl, rfl, fun u v => rfl⟩
      · exact ⟨none, none, rfl⟩
      · rintro σ' H3 s3 e3 ⟨x, y, rfl⟩
        refine ⟨_, rfl, _, rfl, intsD (ps.foldl setP (s.with_ lo)), intsD st, dp_intl e3, .lst ((s1.trans s3).seq hs) (dp_ints st), shaped_ints _, shaped_ints _, ?_⟩
        rw [eqv_ints]
        exact q H3 (s1.trans s3)
end SY

/-! ## Prog, part T: which states can be left; cuts -/
namespace SY
open PySem PySem.Spec PyProof.Rows L2 XB
theorem step_nil2 {A : List Addr} {H H' : Hp} (k : Step [] A H H') : Same H H' := fun b o e => k.kp b o e (by simp)
def wrongs (d : Dsk) (st : List Int) (lot : Nat) : List Nat := (((List.range st.length).zip st).filter fun q => !decide (q.2 ∈ mayHave d lot (q.1 : Nat))).map (·.1)
def keptOf (d : Dsk) (st : List Int) (lot : Nat) : List (Int × Int) := (((List.range st.length).zip st).filter fun q => !decide (q.2 = ((d.with_ lot)[q.1]?).getD 0)).map fun q => ((q.1 : Nat), q.2)
def goodLot (d : Dsk) (st : List Int) (lot : Nat) : Bool := (wrongs d st lot).isEmpty
/-- a Left made anew: its list is new -/
def LeftNew (K : PySem.W.Frag) (H H' : Hp) (a : Addr) (lot : Int) (ps : List (Int × Int)) : Prop := ∃ dx kl, H' a = some (.ins (He.ga K "Left") dx (leftF (.int lot) (.ref kl))) ∧ LotAt H' kl ps ∧ H kl = none
theorem LeftNew.at {K : PySem.W.Frag} {H H' : Hp} {a : Addr} {lot : Int} {ps : List (Int × Int)} (h : LeftNew K H H' a lot ps) : LeftAt K H' a lot ps := by
  obtain ⟨dx, kl, e, l, _⟩ := h
  exact ⟨dx, kl, e, l⟩
def sp_may_be (K : PySem.W.Frag) : Sp := fun vs H Q _ => ∃ (L : DL) (s : Dsk) (sa : Addr) (st : List Int), vs = [.ref L.d, .ref sa] ∧ DiskAt K H L s ∧ s.Ok ∧ H sa = some (.lst (st.map V.int)) ∧ st.length = s.sure.length ∧
  (∀ lot a H', lot < s.lots.length → goodLot s st lot = true → (∀ j, j < lot → goodLot s st j = false) → Same H H' → H a = none → LeftNew K H H' a lot (keptOf s st lot) → Q (.ref a) H') ∧
  ((∀ j, j < s.lots.length → goodLot s st j = false) → ∀ a H', Same H H' → H a = none → NeverAt K H' a ((List.range s.lots.length).map fun j => (((wrongs s st j).head?.getD 0 : Nat) : Int)) → Q (.ref a) H')
def t_may_be (K : PySem.W.Frag) : TS := (tSeq (tIfS (tOr (tNot (tB (tCB (rIsi K) (tCons (tVar 1) (tCons (tC (.ty "list")) tNil))))) (tOr (tTest (tOp rNe (tCB (xLen K) (tCons (tVar 1) tNil)) (tMeth (He.ga K "Disk") "rooms" (sp_Disk_rooms K) [] E0 (tVar 0) tNil))) (tNot (tB (tCB (rAll K) (tCons (tLc (iList K (tVar 1)) (gName 7) tYes (tCall (sp_is_whole K) [] E0 (tCons (tVar 7) tNil)) [7]) tNil)))))) tNever tNext)
    (tSeq (tAsg (tLst tNil) (gName 2))
    (tSeq (tFor (iRng1 (tCons (tCB (xLen K) (tCons (tFld K (tVar 0) "open_lots") tNil)) tNil)) (gName 3) (tSeq (tAsg (tLc (iEnum K (tCons (tVar 1) tNil)) (gTup K 2 (gCons (gName 6) (gCons (gName 7) gNil))) (tTest (tOp (rIn K true) (tVar 7) (tCall (sp_may_have K) [] E0 (tCons (tVar 0) (tCons (tVar 3) (tCons (tVar 6) tNil)))))) (tVar 6) [6, 7]) (gName 4))
    (tSeq (tIfS (tTest (tOp (rEqE K) (tVar 4) (tLst tNil))) (tSeq (tAsg (tMeth (He.ga K "Disk") "with_lots" (sp_Disk_with_lots K) [] E0 (tVar 0) (tCons (tVar 3) tNil)) (gName 5))
    (tRet (tMake (He.ga K "Left") (sp_Left_init K) [] E0 (tCons (tVar 3) (tCons (tLc (iEnum K (tCons (tVar 1) tNil)) (gTup K 2 (gCons (gName 6) (gCons (gName 7) gNil))) (tTest (tOp rNe (tVar 7) (tOp (rIxL K) (tVar 5) (tVar 6)))) (tTup (tCons (tVar 6) (tCons (tVar 7) tNil))) [6, 7]) tNil))))) tNext)
    (tDrop (tBM K "list" rAppend (tVar 2) (tCons (tOp (rIxL K) (tVar 4) (tC (.int 0))) tNil))))))
    (tRet (tMake (He.ga K "Never") (sp_Never_init K) [] E0 (tCons (tVar 2) tNil))))))
theorem len_may_be {K : PySem.W.Frag} (vs : List V) (H : Hp) (Q : VK) (E : XK) (h : sp_may_be K vs H Q E) : vs.length = (["disk", "state"] : List Str).length := by
  unfold sp_may_be at h
  repeat (first | (obtain ⟨e, _⟩ := h; rw [e]; done) | (obtain ⟨e, _⟩ := h; rw [e]; rfl; done) | obtain ⟨_, h⟩ := h)
theorem pure_may_be {K : PySem.W.Frag} (pf : PFA K) {vs : List V} {H : Hp} {Q : VK} {E : XK} (h : sp_may_be K vs H Q E) : t_may_be K { nx := fun _ H' => Q .non H', rt := Q } (start ["disk", "state", "missing", "lot", "wrong", "base", "room", "number"] vs) H := by
  obtain ⟨L, s, sa, st, rfl, h, ok, hs, hlen, q1, q2⟩ := h
  obtain ⟨dx, ho⟩ := h.ob
  have sz := ok.size
  have lz := ok.lots
  refine ⟨_, rfl, .ref sa, .ty "list", _, _, true, rfl, .ty _, .base (.lst hs), kit_ty (by decide +kernel), _, rfl, iteF ?_⟩
  refine ⟨_, rfl, _, _, rfl, .inl (SqL.of hs), _, rfl, L.d, dx, _, rfl, ho, rfl, L, s, rfl, h, rfl, _, rfl, iteN ?_ ?_⟩
  · rw [rooms_bl, List.length_map, hlen, decide_eq_true rfl]
    rfl
  refine ⟨_, rfl, sa, rfl, ⟨_, SqL.of hs⟩, ?_⟩
  refine comp_pure (fun _ => true) (fun _ => .bl true) (SqL.of hs) (by rw [List.length_map]; omega) ?_ ?_ ?_ ?_
  · exact of_decide_eq_true rfl
  · exact fun x hx H1 s1 R r => r H1 (Same.refl H1)
  · intro x hx _ H1 s1 R r
    obtain ⟨i, _, rfl⟩ := List.mem_map.mp hx
    exact ⟨_, rfl, .int i, "int", true, false, rfl, .base (.int i), by decide +kernel, by decide +kernel, r H1 (Same.refl H1)⟩
  · intro p1 H1 hp1 s1 hv1
    have ebs : ((st.map V.int).filter fun _ => true).map (fun _ => V.bl true) = (List.replicate st.length true).map V.bl := by
      rw [List.filter_eq_self.mpr (fun _ _ => rfl), List.map_const', List.length_map, List.map_replicate]
    rw [ebs] at hv1
    refine ⟨p1, List.replicate st.length true, rfl, SqL.of hv1, _, rfl, iteN ?_ ?_⟩
    · have : (List.replicate st.length true).all id = true := by
        rw [List.all_eq_true]
        intro b hb
        exact (List.mem_replicate.mp hb).2
      rw [this]
      rfl
    refine ⟨of_decide_eq_true rfl, fun m hm => ?_⟩
    have s2 := s1.trans (same_upd (o := .lst []) hm)
    have h2 := h.same s2
    obtain ⟨dx2, ho2⟩ := h2.ob
    refine ⟨_, rfl, _, _, _, _, _, rfl, ho2, pf.cl_Disk, pf.na_Disk_open_lots, rfl, _, _, rfl, .inl (SqL.of h2.lo), _, rfl, by rw [List.length_map, h2.lots.len]; omega, by rw [List.length_map, h2.lots.len]; omega, ?_⟩
    have hmH : H m = none := s1.free hm
    rw [List.length_map, h2.lots.len, Int.toNat_natCast]
    refine for_range (fun n σ H3 => Same H H3 ∧ (∀ j, j < n → goodLot s st j = false) ∧ H3 m = some (.lst (((List.range n).map fun j => (((wrongs s st j).head?.getD 0 : Nat) : Int)).map V.int)) ∧ ∃ v3 v4 v5 v6 v7, σ = [some (.ref L.d), some (.ref sa), some (.ref m), v3, v4, v5, v6, v7])
      ⟨s2, fun j hj => by omega, by rw [upd_same]; rfl, _, _, _, _, _, rfl⟩ ?_ ?_
    · rintro n σ H3 hn ⟨s3, hbad, hv3, v3, v4, v5, v6, v7, rfl⟩
      have h3 := h.same s3
      have hs3 := s3 _ _ hs
      have e0 : (0 : Int) + (n : Nat) = (n : Nat) := by omega
      show tSeq _ _ _ ([some (.ref L.d), some (.ref sa), some (.ref m), v3, v4, v5, v6, v7].set 3 (some (V.int (0 + (n : Nat))))) H3
      rw [e0]
      refine ⟨_, rfl, _, _, rfl, SqL.of hs3, ?_⟩
      refine comp_enum (fun i y => !decide (y ∈ mayHave s n (i : Nat))) (fun _ q v _ => v = .int (q.1 : Nat)) (fun _ _ _ _ _ _ e => e) (SqL.of hs3) (by omega) ?_ ?_ ?_
      · intro i y hy H4 s4 Rb r
        have hi : i < st.length := (List.getElem?_eq_some_iff.mp hy).1
        refine ⟨_, rfl, _, rfl, _, rfl, _, rfl, L, s, n, (i : Nat), rfl, h3.same s4, ok, hn, by omega, by omega, fun c H5 hc s5 hv5 => ?_⟩
        refine ⟨c, _, rfl, .inl (SqL.of hv5), rfl, flat_ints _, _, rfl, ?_⟩
        rw [inV_ints]
        exact r H5 s5
      · intro D acc hD i y hy hb H4 s4 hv4 R r
        exact ⟨_, rfl, r _ H4 (Same.refl H4) rfl⟩
      · intro w vs4 H4 hw s4 hv4 hA4
        have evs : vs4 = (wrongs s st n).map fun j => V.int (j : Nat) := by
          have gen : ∀ {l : List (Nat × Int)} {vs : List V}, All2 (fun q v => v = V.int (q.1 : Nat)) l vs → vs = (l.map (·.1)).map fun j => V.int (j : Nat) := by
            intro l vs h
            induction h with
            | nil => rfl
            | cons r t ih => rw [r, ih]; rfl
          exact gen hA4
        subst evs
        have s34 := s3.trans s4
        refine ⟨_, rfl, of_decide_eq_true rfl, fun c hc => ⟨w, c, _, rfl, rfl, SqL.of (same_upd hc _ _ hv4), SqL.of upd_same, _, rfl, ?_⟩⟩
        have s5 := s34.trans (same_upd (o := .lst []) hc)
        have hv5 := same_upd (o := .lst []) hc _ _ hv4
        have hm5 := same_upd (o := .lst []) hc _ _ (s4 _ _ hv3)
        cases hwr : wrongs s st n with
        | nil =>
          refine iteT ?_
          have hg : goodLot s st n = true := by
            unfold goodLot
            rw [hwr]
            rfl
          have h5 := h.same s5
          obtain ⟨dx5, ho5⟩ := h5.ob
          have hs5 := s5 _ _ hs
          refine ⟨_, rfl, L.d, dx5, _, rfl, ho5, rfl, _, rfl, L, s, n, rfl, h5, ok, by omega, fun b H6 hb s6 hv6 => ?_⟩
          have s7 := s5.trans s6
          have hs6 := s6 _ _ hs5
          refine ⟨_, rfl, _, rfl, _, _, rfl, SqL.of hs6, ?_⟩
          refine comp_enum (fun i y => !decide (y = ((s.with_ n)[i]?).getD 0)) (fun D q v H => ∃ t, t ≠ D ∧ v = .ref t ∧ TupAt H t ((q.1 : Nat), q.2)) ?_ (SqL.of hs6) (by omega) ?_ ?_ ?_
          · rintro D f v Ha Hb k ⟨t, n, e, h⟩
            exact ⟨t, n, e, k _ _ h n⟩
          · intro i y hy H8 s8 Rb r
            have hi : i < st.length := (List.getElem?_eq_some_iff.mp hy).1
            have hil : i < (s.with_ n).length := by
              rw [Dsk.with_len]
              omega
            refine ⟨_, rfl, _, rfl, _, rfl, b, _, (i : Nat), .int (((s.with_ n)[i]?).getD 0), rfl, rfl, SqL.of (s8 _ _ hv6), atI_of ?_, rfl, _, rfl, ?_⟩
            · rw [List.getElem?_map, List.getElem?_eq_getElem hil]
              rfl
            · rw [rooms_bl]
              exact r H8 (Same.refl H8)
          · intro D acc hD i y hy hb H8 s8 hv8 R r
            exact ⟨_, rfl, _, rfl, of_decide_eq_true rfl, fun t ht => r _ _ (same_upd ht) ⟨t, (ne_of_none hv8 ht).symm, rfl, upd_same⟩⟩
          · intro kp vs9 H9 hkp s9 hv9 hA9
            have s10 := s7.trans s9
            obtain ⟨ts, ets, tts⟩ : ∃ ts : List Addr, vs9 = ts.map V.ref ∧ All2 (TupAt H9) ts (keptOf s st n) := by
              have gen : ∀ {l : List (Nat × Int)} {vs : List V}, All2 (fun q v => ∃ t, t ≠ kp ∧ v = .ref t ∧ TupAt H9 t ((q.1 : Nat), q.2)) l vs → ∃ ts : List Addr, vs = ts.map V.ref ∧ All2 (TupAt H9) ts (l.map fun q => (((q.1 : Nat) : Int), q.2)) := by
                intro l vs h
                induction h with
                | nil => exact ⟨[], rfl, .nil⟩
                | cons r t ih =>
                  obtain ⟨a, _, rfl, ta⟩ := r
                  obtain ⟨ts, rfl, tt⟩ := ih
                  exact ⟨a :: ts, rfl, .cons ta tt⟩
              exact gen hA9
            subst ets
            intro x dy hx hdy hxy
            have km := Step.made (C := He.ga K "Left") hx hdy
            have sm := step_nil2 km
            refine ⟨x, dy, n, kp, keptOf s st n, rfl, upd_same, lotAt_same ⟨ts, hv9, tts⟩ sm, fun kl H10 k10 hkl e10 l10 => ⟨rfl, ?_⟩⟩
            refine q1 n x H10 hn hg hbad (fun bb o e => k10 _ _ (sm _ _ (s10 _ _ e)) (ne_of_none (s10 _ _ e) hx)) (s10.free hx) ⟨dy, kl, e10, l10, s10.free (sm.free hkl)⟩
        | cons j js =>
          refine iteF ?_
          have hg : goodLot s st n = false := by
            unfold goodLot
            rw [hwr]
            rfl
          rw [hwr] at hv5
          refine ⟨_, rfl, .inl ⟨rfl, _, SqL.of hm5⟩, _, rfl, w, _, 0, .int (j : Nat), rfl, rfl, SqL.of hv5, atI_of (j := 0) rfl, m, _, _, rfl, rfl, hm5, sz_lt (by rw [List.length_map, List.length_map, List.length_range]; omega), ?_⟩
          refine ⟨upd_new s5 hmH, fun i hi => ?_, ?_, _, _, _, _, _, rfl⟩
          · by_cases e : i = n
            · rw [e]
              exact hg
            · exact hbad i (by omega)
          · rw [upd_same, List.range_succ, List.map_append, List.map_append]
            simp [hwr]
    · rintro σ H3 ⟨s3, hbad, hv3, v3, v4, v5, v6, v7, rfl⟩
      refine ⟨_, rfl, fun x dy hx hdy hxy => ?_⟩
      have km := Step.made (C := He.ga K "Never") hx hdy
      have sm := step_nil2 km
      refine ⟨x, dy, m, _, rfl, upd_same, sm _ _ hv3, fun ml H4 k4 hml e4 l4 => ⟨rfl, ?_⟩⟩
      exact q2 hbad x H4 (fun bb o e => k4 _ _ (sm _ _ (s3 _ _ e)) (ne_of_none (s3 _ _ e) hx)) (s3.free hx) ⟨dy, ml, e4, l4⟩
end SY

/-! ## Prog, part U: cuts; counts of disks without writes -/
namespace SY
open PySem PySem.Spec PyProof.Rows L2 XB
def Dsk.cut (s : Dsk) (lot : Nat) (ks : List (Int × Int)) : Dsk := ⟨ks.foldl setP (s.with_ lot), [[]], none⟩
def sp_Disk_cut (K : PySem.W.Frag) : Sp := fun vs H Q _ => ∃ L s lot ka ks w, vs = [.ref L.d, .int (lot : Nat), .ref ka] ∧ DiskAt K H L s ∧ s.Ok ∧ s.lots[lot]? = some w ∧ LotAt H ka ks ∧ fnk w s.sure.length ks (-1) 0 = none ∧
  ∀ L' H' p, DiskAt K H' L' (s.cut lot ks) → L'.d = L.d → Step L.foot L'.foot H H' → H p = none → p ∉ L'.foot → H' p = some (.lst ((s.cut lot ks).sure.map V.int)) → Q (.ref p) H'
def t_Disk_cut (K : PySem.W.Frag) : TS := (tSeq (tIfS (tOr (tNot (tB (tCall (sp_within K) [] E0 (tCons (tVar 1) (tCons (tC (.int 0)) (tCons (tOp xSub (tCB (xLen K) (tCons (tFld K (tVar 0) "open_lots") tNil)) (tC (.int 1))) tNil)))))) (tNot (tB (tCB (rIsi K) (tCons (tVar 2) (tCons (tC (.ty "list")) tNil)))))) tNever tNext)
    (tSeq (tAsg (tCall (sp_first_not_kept K) [] E0 (tCons (tOp (rIxL K) (tFld K (tVar 0) "open_lots") (tVar 1)) (tCons (tVar 2) (tCons (tCB (xLen K) (tCons (tFld K (tVar 0) "sure") tNil)) tNil)))) (gName 3))
    (tSeq (tIfS (tTest (tOp xNotN (tVar 3) (tC .non))) tNever tNext)
    (tSeq (tAsg (tMeth (He.ga K "Disk") "with_lots" (sp_Disk_with_lots K) [] E0 (tVar 0) (tCons (tVar 1) tNil)) (gName 4))
    (tSeq (tFor (iList K (tVar 2)) (gTup K 2 (gCons (gName 5) (gCons (gName 6) gNil))) (tAsg (tVar 6) (gSub (tVar 4) (tVar 5) rSetL)))
    (tSeq (sFld K (tVar 0) (tVar 4) "sure")
    (tSeq (tAsg (tTup (tCons (tLst (tCons (tLst tNil) tNil)) (tCons (tC .non) tNil))) (gTup K 2 (gCons (gFld K (tVar 0) "open_lots") (gCons (gFld K (tVar 0) "left") gNil))))
    (tRet (tCB (xList K) (tCons (tVar 4) tNil))))))))))
theorem len_Disk_cut {K : PySem.W.Frag} (vs : List V) (H : Hp) (Q : VK) (E : XK) (h : sp_Disk_cut K vs H Q E) : vs.length = (["self", "lot", "kept"] : List Str).length := by
  unfold sp_Disk_cut at h
  repeat (first | (obtain ⟨e, _⟩ := h; rw [e]; done) | (obtain ⟨e, _⟩ := h; rw [e]; rfl; done) | obtain ⟨_, h⟩ := h)
theorem pure_Disk_cut {K : PySem.W.Frag} (pf : PF K) {vs : List V} {H : Hp} {Q : VK} {E : XK} (h : sp_Disk_cut K vs H Q E) : t_Disk_cut K { nx := fun _ H' => Q .non H', rt := Q } (start ["self", "lot", "kept", "at", "late", "room", "number"] vs) H := by
  obtain ⟨L, s, lot, ka, ks, w, rfl, h, ok, hw, hk, hf, q⟩ := h
  obtain ⟨dx, ho⟩ := h.ob
  have hlt := (List.getElem?_eq_some_iff.mp hw).1
  have hkt : ∃ xs, H ka = some (.lst xs) := by
    obtain ⟨ts, e, _⟩ := hk
    exact ⟨_, e⟩
  obtain ⟨kxs, hkx⟩ := hkt
  have lz := ok.lots
  refine ⟨_, rfl, _, rfl, _, _, _, _, _, rfl, ho, pf.cl_Disk, pf.na_Disk_open_lots, rfl, _, _, rfl, .inl (SqL.of h.lo), _, _, rfl, rfl, lot, 0, _, rfl, _, rfl, ?_⟩
  rw [List.length_map, h.lots.len]
  have c1 : (!(decide ((0 : Int) ≤ (lot : Nat)) && decide (((lot : Nat) : Int) ≤ (s.lots.length : Int) - 1))) = false := by
    rw [decide_eq_true (by omega), decide_eq_true (by omega)]
    rfl
  refine iteN (by first | exact c1 | rfl) ?_
  refine ⟨_, rfl, .ref ka, .ty "list", _, _, true, rfl, .ty _, .base (.lst hkx), kit_ty (by decide +kernel), _, rfl, iteF ?_⟩
  obtain ⟨la, hla, lw⟩ := h.lots.get2 hw
  refine ⟨_, rfl, _, _, _, _, _, rfl, ho, pf.cl_Disk, pf.na_Disk_open_lots, rfl, _, rfl, L.lo, _, lot, .ref la, rfl, rfl, SqL.of h.lo, atI_of ?_, _, rfl, _, rfl, _, _, _, _, _, rfl, ho, pf.cl_Disk, pf.na_Disk_sure, rfl, _, _, rfl, .inl (SqL.of h.ls), la, w, ka, ks, _, rfl, lw, hk, fun H1 s1 => ?_⟩
  · rw [List.getElem?_map, hla]
    rfl
  rw [List.length_map, hf]
  refine ⟨_, rfl, rfl, _, rfl, iteN rfl ?_⟩
  have h1 := h.same s1
  obtain ⟨dx1, ho1⟩ := h1.ob
  refine ⟨_, rfl, L.d, dx1, _, rfl, ho1, rfl, _, rfl, L, s, lot, rfl, h1, ok, by omega, fun p H2 hp s2 e2 => ?_⟩
  have hk2 := lotAt_same hk (s1.trans s2)
  refine ⟨_, rfl, ka, rfl, ?_, ?_⟩
  · obtain ⟨ts, e, _⟩ := hk2
    exact ⟨_, SqL.of e⟩
  refine put_pairs (i1 := 5) (i2 := 6) (i3 := 4) (H0 := H1) (a := p) hk2 hp s2 e2 (fun pr hpr => ?_) ?_ ?_ (by rw [s1 _ _ hkx]; simp) ?_
  · have := fnk_none hf pr hpr
    rw [Dsk.with_len]
    omega
  · exact fun x y => ⟨rfl, rfl, rfl, fun u v => rfl⟩
  · exact ⟨none, none, rfl⟩
  rintro σ' H3 s3 e3 ⟨x, y, rfl⟩
  have s13 := s1.trans s3
  have ho3 := s13 _ _ ho
  have hpH : H p = none := s1.free hp
  have npd : p ≠ L.d := (ne_of_none ho hpH).symm
  refine ⟨_, rfl, _, rfl, L.d, _, dx, _, rfl, ho3, pf.cl_Disk, pf.na_Disk_sure, of_decide_eq_true rfl, ?_⟩
  refine ⟨of_decide_eq_true rfl, fun a ha => ⟨of_decide_eq_true rfl, fun o hx => ?_⟩⟩
  have nad : a ≠ L.d := fun z => by
    rw [z, upd_same] at ha
    cases ha
  rw [upd_ne nad] at ha
  have nod : o ≠ L.d := fun z => by
    rw [z, upd_ne nad.symm, upd_same] at hx
    cases hx
  have noa : o ≠ a := fun z => by
    rw [z, upd_same] at hx
    cases hx
  rw [upd_ne noa, upd_ne nod] at hx
  have nap : a ≠ p := (ne_of_none e3 ha).symm
  have nop : o ≠ p := (ne_of_none e3 hx).symm
  refine ⟨of_decide_eq_true rfl, fun t ht => ?_⟩
  have ntd : t ≠ L.d := fun z => by
    rw [z, upd_ne nod.symm, upd_ne nad.symm, upd_same] at ht
    cases ht
  have nto : t ≠ o := fun z => by
    rw [z, upd_same] at ht
    cases ht
  have nta : t ≠ a := fun z => by
    rw [z, upd_ne noa.symm, upd_same] at ht
    cases ht
  rw [upd_ne nto, upd_ne nta, upd_ne ntd] at ht
  have ntp : t ≠ p := (ne_of_none e3 ht).symm
  refine ⟨t, _, rfl, SqT.of upd_same, rfl, _, _, rfl, ?_⟩
  refine ⟨_, rfl, L.d, _, dx, _, rfl, (upd_ne ntd.symm).trans ((upd_ne nod.symm).trans ((upd_ne nad.symm).trans upd_same)), pf.cl_Disk, pf.na_Disk_open_lots, of_decide_eq_true rfl, ?_⟩
  refine ⟨_, _, rfl, _, rfl, L.d, _, dx, _, rfl, upd_same, pf.cl_Disk, pf.na_Disk_left, of_decide_eq_true rfl, rfl, ?_⟩
  refine ⟨_, rfl, p, (ks.foldl setP (s.with_ lot)).map V.int, rfl, .inl (SqL.of ?_), fun z hz => ?_⟩
  · rw [upd_ne npd, upd_ne npd, upd_ne ntp.symm, upd_ne nop.symm, upd_ne nap.symm, upd_ne npd]
    exact e3
  have nzd : z ≠ L.d := fun w => by
    rw [w, upd_same] at hz
    cases hz
  rw [upd_ne nzd, upd_ne nzd] at hz
  have nzt : z ≠ t := fun w => by
    rw [w, upd_same] at hz
    cases hz
  rw [upd_ne nzt] at hz
  have nzo : z ≠ o := fun w => by
    rw [w, upd_same] at hz
    cases hz
  rw [upd_ne nzo] at hz
  have nza : z ≠ a := fun w => by
    rw [w, upd_same] at hz
    cases hz
  rw [upd_ne nza, upd_ne nzd] at hz
  have nzp : z ≠ p := (ne_of_none e3 hz).symm
  have hd : L.d ∈ L.foot := by
    unfold DL.foot
    simp
  refine q ⟨L.d, p, o, [a]⟩ _ z ⟨⟨dx, ?_⟩, ?_, ?_, .one ⟨[], ?_, .nil⟩, ?_⟩ rfl ?_ (s13.free hz) ?_ upd_same
  · show upd _ z _ L.d = _
    rw [upd_ne nzd.symm, upd_same]
    rfl
  · show upd _ z _ p = _
    rw [upd_ne nzp.symm, upd_ne npd, upd_ne npd, upd_ne ntp.symm, upd_ne nop.symm, upd_ne nap.symm, upd_ne npd]
    exact e3
  · show upd _ z _ o = _
    rw [upd_ne nzo.symm, upd_ne nod, upd_ne nod, upd_ne nto.symm, upd_same]
    rfl
  · show upd _ z _ a = _
    rw [upd_ne nza.symm, upd_ne nad, upd_ne nad, upd_ne nta.symm, upd_ne noa.symm, upd_same]
    rfl
  · simp [npd.symm, nod.symm, nad.symm, nop.symm, nap.symm, noa]
  · have k1 := ((Step.refl L.foot H).seq s13).upd (a := L.d) (o := .ins (He.ga K "Disk") dx (putF "sure" (.ref p) (diskF (.ref L.ls) (.ref L.lo) (leftV s.left)))) (.inr ⟨hd, fun xs => nt_ins ho3⟩)
    have k2 := k1.seq (same_upd (p := a) (o := .lst []) (by rw [upd_ne nad]; exact ha))
    have k3 := k2.seq (same_upd (p := o) (o := .lst [.ref a]) (by rw [upd_ne noa, upd_ne nod]; exact hx))
    have k4 := k3.seq (same_upd (p := t) (o := .tup [.ref o, .non]) (by rw [upd_ne nto, upd_ne nta, upd_ne ntd]; exact ht))
    have k5 := k4.upd (a := L.d) (o := .ins (He.ga K "Disk") dx (putF "open_lots" (.ref o) (putF "sure" (.ref p) (diskF (.ref L.ls) (.ref L.lo) (leftV s.left))))) (.inr ⟨hd, fun xs => by rw [upd_ne ntd.symm, upd_ne nod.symm, upd_ne nad.symm, upd_same]; intro z; cases z⟩)
    have k6 := k5.upd (a := L.d) (o := .ins (He.ga K "Disk") dx (putF "left" .non (putF "open_lots" (.ref o) (putF "sure" (.ref p) (diskF (.ref L.ls) (.ref L.lo) (leftV s.left)))))) (.inr ⟨hd, fun xs => by rw [upd_same]; intro z; cases z⟩)
    have k7 := k6.seq (same_upd (p := z) (o := .lst ((ks.foldl setP (s.with_ lot)).map V.int)) (by rw [upd_ne nzd, upd_ne nzd, upd_ne nzt, upd_ne nzo, upd_ne nza, upd_ne nzd]; exact hz))
    refine k7.sub fun b hb => ?_
    unfold DL.foot at hb
    simp only [List.mem_cons, List.not_mem_nil, or_false] at hb
    rcases hb with rfl | rfl | rfl | rfl
    · exact .inl hd
    · exact .inr hpH
    · exact .inr (s13.free hx)
    · exact .inr (s13.free ha)
  · unfold DL.foot
    simp only [List.mem_cons, List.not_mem_nil, or_false, not_or]
    exact ⟨nzd, nzp, nzo, nza⟩
end SY

/-! ## Prog, part V: a state that a lot can leave is shown to be left -/
namespace SY
open PySem PySem.Spec PyProof.Rows L2 XB
theorem fnk_ok {w : List (Int × Int)} {rooms : Int} : ∀ {ps : List (Int × Int)} {last : Int} {k : Nat}, (∀ p ∈ ps, 0 ≤ p.1 ∧ p.1 ≤ rooms - 1 ∧ p ∈ w) → (∀ p ∈ ps, last < p.1) → ps.Pairwise (fun a b => a.1 < b.1) → fnk w rooms ps last k = none
  | [], _, _, _, _, _ => rfl
  | x :: ps, last, k, h1, h2, h3 => by
    obtain ⟨a, b, c⟩ := h1 x List.mem_cons_self
    have d := h2 x List.mem_cons_self
    obtain ⟨e, f⟩ := List.pairwise_cons.mp h3
    rw [fnk, decide_eq_true a, decide_eq_true b, decide_eq_true c, decide_eq_false (by omega)]
    exact fnk_ok (fun p hp => h1 p (List.mem_cons_of_mem _ hp)) (fun p hp => e p hp) f
theorem setP_get : ∀ {ps : List (Int × Int)} {l : List Int} {j : Nat}, (∀ p ∈ ps, 0 ≤ p.1) → (∀ p ∈ ps, p.1 ≠ (j : Nat)) → (ps.foldl setP l)[j]? = l[j]?
  | [], _, _, _, _ => rfl
  | p :: ps, l, j, h0, h => by
    rw [List.foldl_cons, setP_get (fun q hq => h0 q (List.mem_cons_of_mem _ hq)) (fun q hq => h q (List.mem_cons_of_mem _ hq))]
    have a := h0 p List.mem_cons_self
    have b := h p List.mem_cons_self
    unfold setP
    rw [List.getElem?_set_ne (by omega)]
theorem setP_hit : ∀ {ps : List (Int × Int)} {l : List Int} {j : Nat} {v : Int}, (∀ p ∈ ps, 0 ≤ p.1) → ps.Pairwise (fun a b => a.1 < b.1) → j < l.length → (((j : Nat) : Int), v) ∈ ps → (ps.foldl setP l)[j]? = some v
  | [], _, _, _, _, _, _, h => by cases h
  | p :: ps, l, j, v, h0, hp, hj, h => by
    obtain ⟨e, f⟩ := List.pairwise_cons.mp hp
    rw [List.foldl_cons]
    rcases List.mem_cons.mp h with rfl | h
    · rw [setP_get (fun q hq => h0 q (List.mem_cons_of_mem _ hq)) (fun q hq z => by have := e q hq; omega)]
      unfold setP
      rw [Int.toNat_natCast, List.getElem?_set_self hj]
    · exact setP_hit (fun q hq => h0 q (List.mem_cons_of_mem _ hq)) f (by rw [setP_len]; exact hj) h
theorem zip_pair (st : List Int) : ((List.range st.length).zip st).Pairwise fun a b => a.1 < b.1 := by
  have : (((List.range st.length).zip st).map Prod.fst).Pairwise (· < ·) := by
    rw [List.map_fst_zip (by rw [List.length_range]; omega)]
    exact List.pairwise_lt_range
  exact List.pairwise_map.mp this
theorem mem_zip {st : List Int} {i : Nat} {y : Int} : (i, y) ∈ (List.range st.length).zip st ↔ st[i]? = some y := by
  rw [List.mem_iff_getElem?]
  constructor
  · rintro ⟨n, hn⟩
    rw [List.getElem?_zip_eq_some] at hn
    obtain ⟨h1, h2⟩ := hn
    have hl := (List.getElem?_eq_some_iff.mp h1).1
    rw [List.length_range] at hl
    rw [List.getElem?_range hl] at h1
    cases h1
    exact h2
  · intro h
    have hl := (List.getElem?_eq_some_iff.mp h).1
    exact ⟨i, by rw [List.getElem?_zip_eq_some]; exact ⟨by rw [List.getElem?_range hl], h⟩⟩
theorem mem_kept {d : Dsk} {st : List Int} {lot : Nat} {p : Int × Int} : p ∈ keptOf d st lot ↔ ∃ i : Nat, p.1 = i ∧ st[i]? = some p.2 ∧ p.2 ≠ ((d.with_ lot)[i]?).getD 0 := by
  unfold keptOf
  rw [List.mem_map]
  constructor
  · rintro ⟨⟨i, y⟩, h, rfl⟩
    obtain ⟨h1, h2⟩ := List.mem_filter.mp h
    exact ⟨i, rfl, mem_zip.mp h1, by simpa using h2⟩
  · rintro ⟨i, e, h1, h2⟩
    obtain ⟨p1, p2⟩ := p
    dsimp only at e h1 h2
    subst e
    exact ⟨(i, p2), List.mem_filter.mpr ⟨mem_zip.mpr h1, by simpa using h2⟩, rfl⟩
theorem good_iff {d : Dsk} {st : List Int} {lot : Nat} : goodLot d st lot = true ↔ ∀ (i : Nat) (y : Int), st[i]? = some y → y ∈ mayHave d lot (i : Nat) := by
  unfold goodLot wrongs
  rw [List.isEmpty_iff, List.map_eq_nil_iff, List.filter_eq_nil_iff]
  constructor
  · intro h i y hy
    have := h (i, y) (mem_zip.mpr hy)
    simpa using this
  · rintro h ⟨i, y⟩ hm
    have := h i y (mem_zip.mp hm)
    simpa using this
theorem kept_sorted (d : Dsk) (st : List Int) (lot : Nat) : (keptOf d st lot).Pairwise fun a b => a.1 < b.1 := by
  unfold keptOf
  rw [List.pairwise_map]
  refine ((zip_pair st).filter _).imp ?_
  intro a b h
  dsimp only
  omega
theorem good_fnk {d : Dsk} {st : List Int} {lot : Nat} {w : List (Int × Int)} (hw : d.lots[lot]? = some w) (hl : st.length = d.sure.length) (hg : goodLot d st lot = true) : fnk w d.sure.length (keptOf d st lot) (-1) 0 = none := by
  refine fnk_ok (fun p hp => ?_) (fun p hp => ?_) (kept_sorted d st lot)
  · obtain ⟨i, e, h1, h2⟩ := mem_kept.mp hp
    have hi := (List.getElem?_eq_some_iff.mp h1).1
    refine ⟨by omega, by omega, ?_⟩
    have := good_iff.mp hg i p.2 h1
    unfold mayHave at this
    rw [Int.toNat_natCast, List.mem_cons] at this
    rcases this with z | z
    · exact absurd z h2
    · obtain ⟨q, hq, eq⟩ := List.mem_map.mp z
      obtain ⟨hq1, hq2⟩ := List.mem_filter.mp hq
      rw [hw] at hq1
      have e1 := of_decide_eq_true hq2
      have : q = p := by
        obtain ⟨q1, q2⟩ := q
        obtain ⟨p1, p2⟩ := p
        dsimp only at e e1 eq
        rw [e1, eq, e]
      exact this ▸ hq1
  · obtain ⟨i, e, _⟩ := mem_kept.mp hp
    omega
theorem kept_state {d : Dsk} {st : List Int} {lot : Nat} (hl : st.length = d.sure.length) : (keptOf d st lot).foldl setP (d.with_ lot) = st := by
  refine List.ext_getElem? fun j => ?_
  have h0 : ∀ p ∈ keptOf d st lot, 0 ≤ p.1 := fun p hp => by
    obtain ⟨i, e, _⟩ := mem_kept.mp hp
    omega
  by_cases hj : j < st.length
  · have hjw : j < (d.with_ lot).length := by
      rw [Dsk.with_len]
      omega
    rw [List.getElem?_eq_getElem hj]
    by_cases e : st[j] = ((d.with_ lot)[j]?).getD 0
    · rw [setP_get h0 fun p hp z => ?_]
      · rw [e, List.getElem?_eq_getElem hjw]
        rfl
      · obtain ⟨i, ei, h1, h2⟩ := mem_kept.mp hp
        have : i = j := by omega
        subst this
        rw [List.getElem?_eq_getElem hj] at h1
        exact h2 ((Option.some.inj h1).symm.trans e)
    · exact setP_hit h0 (kept_sorted d st lot) hjw (mem_kept.mpr ⟨j, rfl, List.getElem?_eq_getElem hj, e⟩)
  · rw [List.getElem?_eq_none (by rw [foldl_setP_len, Dsk.with_len]; omega), List.getElem?_eq_none (by omega)]
theorem good_shows {d : Dsk} {st : List Int} {lot : Nat} (hlt : lot < d.lots.length) (hl : st.length = d.sure.length) (hg : goodLot d st lot = true) : showsL d (lot : Nat) (keptOf d st lot) st = true := by
  unfold showsL
  rw [decide_eq_true (by omega), decide_eq_true (by omega), Int.toNat_natCast, List.getElem?_eq_getElem hlt]
  have := good_fnk (List.getElem?_eq_getElem hlt) hl hg
  show (if false = true then false else if (fnk d.lots[lot] _ _ _ _).isSome = true then false else _) = true
  rw [this, kept_state hl]
  simp
/-- what reads show can be left -/
theorem shown_good {d : Dsk} (ok : d.Ok) : goodLot d d.shown (d.lots.length - 1) = true := by
  rw [good_iff]
  intro i y hy
  have hpos : 0 < d.lots.length := List.length_pos_iff.mpr ok.ne
  obtain ⟨w, hw⟩ : ∃ w, d.lots[d.lots.length - 1]? = some w := ⟨_, List.getElem?_eq_getElem (by omega)⟩
  have es : d.shown = w.foldl setP (d.with_ (d.lots.length - 1)) := by
    unfold Dsk.shown Dsk.with_
    rw [List.take_length]
    have : d.lots = d.lots.take (d.lots.length - 1) ++ [w] := by
      conv => lhs; rw [← List.take_append_drop (d.lots.length - 1) d.lots]
      congr 1
      rw [← List.getElem_cons_drop (by omega), (List.getElem?_eq_some_iff.mp hw).2]
      simp
      omega
    conv => lhs; rw [this]
    rw [List.flatten_append, List.foldl_append]
    simp
  unfold mayHave
  rw [Int.toNat_natCast, hw, List.mem_cons]
  have gen : ∀ (ps : List (Int × Int)) (l : List Int) (y : Int), (∀ p ∈ ps, 0 ≤ p.1) → (ps.foldl setP l)[i]? = some y → l[i]? = some y ∨ (((i : Nat) : Int), y) ∈ ps := by
    intro ps
    induction ps with
    | nil => intro l y _ h; exact .inl h
    | cons p ps ih =>
      intro l y h0 h
      rw [List.foldl_cons] at h
      rcases ih (setP l p) y (fun q hq => h0 q (List.mem_cons_of_mem _ hq)) h with z | z
      · unfold setP at z
        rw [List.getElem?_set] at z
        have a := h0 p List.mem_cons_self
        split at z
        · split at z
          · rename_i e _
            cases z
            refine .inr (List.mem_cons.mpr (.inl ?_))
            obtain ⟨p1, p2⟩ := p
            dsimp only at e a ⊢
            rw [← e, Int.toNat_of_nonneg a]
          · cases z
        · exact .inl z
      · exact .inr (List.mem_cons_of_mem _ z)
  rw [es] at hy
  rcases gen w _ y (fun p hp => (ok.rooms w (List.mem_of_getElem? hw) p hp).1) hy with z | z
  · left
    rw [z]
    rfl
  · right
    exact List.mem_map.mpr ⟨(((i : Nat) : Int), y), List.mem_filter.mpr ⟨z, by simp⟩, rfl⟩
end SY

/-! ## Prog, part W: worlds of chunks (what is owned, side by side) -/
namespace SY
open PySem PySem.Spec PyProof.Rows L2 XB
/-- a part of the heap: where it stands, what is true of it; it stays while nothing of it is changed -/
structure Ck where
  foot : List Addr
  P : Hp → Prop
  loc : ∀ {A A' : List Addr} {H H' : Hp}, Step A A' H H' → (∀ b, b ∈ foot → b ∉ A) → P H → P H'
  has : ∀ {H : Hp}, P H → ∀ b, b ∈ foot → H b ≠ none
  nd : ∀ {H : Hp}, P H → foot.Nodup
def feet (Γ : List Ck) : List Addr := (Γ.map Ck.foot).flatten
theorem mem_feet {Γ : List Ck} {b : Addr} : b ∈ feet Γ ↔ ∃ c ∈ Γ, b ∈ c.foot := by
  unfold feet
  simp only [List.mem_flatten, List.mem_map]
  exact ⟨fun ⟨_, ⟨c, hc, e⟩, hb⟩ => ⟨c, hc, e ▸ hb⟩, fun ⟨c, hc, hb⟩ => ⟨_, ⟨c, hc, rfl⟩, hb⟩⟩
theorem feet_cons (c : Ck) (Γ : List Ck) : feet (c :: Γ) = c.foot ++ feet Γ := by
  simp [feet]
/-- A0 is what may be changed since H0; Γ stands in H, side by side -/
structure Wd (A0 : List Addr) (H0 : Hp) (Γ : List Ck) (H : Hp) : Prop where
  all : ∀ c ∈ Γ, c.P H
  nd : (feet Γ).Nodup
  st : Step A0 (feet Γ) H0 H
section
variable {A0 A A' : List Addr} {H0 H H' H1 : Hp} {Γ Γ' : List Ck} {c c' d : Ck} {i j : Nat}
theorem Wd.get (W : Wd A0 H0 Γ H) (h : Γ[i]? = some c) : c.P H := W.all c (List.mem_of_getElem? h)
theorem Wd.hasAt (W : Wd A0 H0 Γ H) {b : Addr} (h : b ∈ feet Γ) : H b ≠ none := by
  obtain ⟨c, hc, hb⟩ := mem_feet.mp h
  exact c.has (W.all c hc) b hb
theorem Wd.fresh (W : Wd A0 H0 Γ H) {b : Addr} (h : H b = none) : b ∉ feet Γ := fun z => W.hasAt z h
theorem Wd.same (W : Wd A0 H0 Γ H) (s : Same H H') : Wd A0 H0 Γ H' :=
  ⟨fun c hc => c.loc (Step.same [] s) (fun _ _ z => by simp at z) (W.all c hc), W.nd, W.st.seq s⟩
theorem Wd.none0 (W : Wd A0 H0 Γ H) {b : Addr} (h : H b = none) : b ∈ A0 ∨ H0 b = none := by
  by_cases m : b ∈ A0
  · exact .inl m
  · right
    cases e : H0 b with
    | none => rfl
    | some o =>
      rw [W.st.kp b o e m] at h
      cases h
/-- something new -/
theorem Wd.new (W : Wd A0 H0 Γ H) (c : Ck) (s : Same H H') (hc : c.P H') (hn : ∀ b, b ∈ c.foot → H b = none) : Wd A0 H0 (c :: Γ) H' := by
  have W' := W.same s
  refine ⟨fun d hd => (List.mem_cons.mp hd).elim (fun z => z ▸ hc) (W'.all d), ?_, W'.st.kp, fun b hb => ?_, W'.st.tp⟩
  · rw [feet_cons, List.nodup_append]
    exact ⟨c.nd hc, W.nd, fun a ha b hb e => W.hasAt hb (e ▸ hn a ha)⟩
  · rw [feet_cons, List.mem_append] at hb
    exact hb.elim (fun z => W.none0 (hn b z)) (W.st.nw b)
theorem feet_set : ∀ {Γ : List Ck} {i : Nat} {c : Ck}, Γ[i]? = some c → ∃ Δ Δ', Γ = Δ ++ c :: Δ' ∧ ∀ c', Γ.set i c' = Δ ++ c' :: Δ'
  | [], i, c, h => by simp at h
  | d :: Γ, 0, c, h => ⟨[], Γ, by simp at h; simp [h], fun c' => rfl⟩
  | d :: Γ, i + 1, c, h => by
    obtain ⟨Δ, Δ', e, f⟩ := feet_set (Γ := Γ) (i := i) (by simpa using h)
    exact ⟨d :: Δ, Δ', by rw [e]; rfl, fun c' => by rw [List.set_cons_succ, f]; rfl⟩
theorem feet_app (Γ Γ' : List Ck) : feet (Γ ++ Γ') = feet Γ ++ feet Γ' := by
  simp [feet]
theorem apart_of {Γ : List Ck} (nd : (feet Γ).Nodup) {i j : Nat} {c d : Ck} (hi : Γ[i]? = some c) (hj : Γ[j]? = some d) (n : i ≠ j) {b : Addr} (hb : b ∈ c.foot) : b ∉ d.foot := by
  intro z
  have key : ∀ {Γ : List Ck}, (feet Γ).Nodup → ∀ {i j : Nat} {c d : Ck}, Γ[i]? = some c → Γ[j]? = some d → i < j → b ∈ c.foot → b ∈ d.foot → False := by
    intro Γ
    induction Γ with
    | nil => intro _ i j c d hi; simp at hi
    | cons x Γ ih =>
      intro nd i j c d hi hj hij hb hd
      rw [feet_cons, List.nodup_append] at nd
      cases j with
      | zero => omega
      | succ j =>
        rw [List.getElem?_cons_succ] at hj
        cases i with
        | zero =>
          rw [List.getElem?_cons_zero] at hi
          cases hi
          exact nd.2.2 b hb b (mem_feet.mpr ⟨d, List.mem_of_getElem? hj, hd⟩) rfl
        | succ i => exact ih nd.2.1 (by simpa using hi) hj (by omega) hb hd
  rcases Nat.lt_or_gt_of_ne n with h | h
  · exact key nd hi hj h hb z
  · exact key nd hj hi h z hb
theorem Wd.apart (W : Wd A0 H0 Γ H) (hi : Γ[i]? = some c) (hj : Γ[j]? = some d) (n : i ≠ j := by decide) : ∀ b, b ∈ c.foot → b ∉ d.foot := fun _ => apart_of W.nd hi hj n
/-- one part went on; what was done to it is done in its place -/
theorem Wd.turn (W : Wd A0 H0 Γ H) (hi : Γ[i]? = some c) (c' : Ck) (k : Step A A' H H') (hc : c'.P H') (hA : ∀ b, b ∈ A → b ∈ c.foot) (hB : ∀ b, b ∈ c'.foot → b ∈ A' ∨ b ∈ c.foot ∨ H b = none) : Wd A0 H0 (Γ.set i c') H' := by
  obtain ⟨Δ, Δ', e, f⟩ := feet_set hi
  have nd := W.nd
  have nd0 := nd
  have fB : ∀ b, b ∈ c'.foot → b ∈ c.foot ∨ H b = none := fun b hb => (hB b hb).elim (fun z => (k.nw b z).imp_left (hA b)) id
  rw [e, feet_app, feet_cons, List.nodup_append, List.nodup_append] at nd
  have far : ∀ d, d ∈ Δ ∨ d ∈ Δ' → ∀ b, b ∈ d.foot → b ∉ c.foot := by
    rintro d (hd | hd) b hb z
    · exact nd.2.2 b (mem_feet.mpr ⟨d, hd, hb⟩) b (List.mem_append_left _ z) rfl
    · exact nd.2.1.2.2 b z b (mem_feet.mpr ⟨d, hd, hb⟩) rfl
  have hasO : ∀ d, d ∈ Δ ∨ d ∈ Δ' → ∀ b, b ∈ d.foot → H b ≠ none := fun d hd b hb => d.has (W.all d (by rw [e]; rcases hd with z | z <;> simp [z])) b hb
  refine ⟨fun d hd => ?_, ?_, ?_⟩
  · rw [f, List.mem_append, List.mem_cons] at hd
    have old : d ∈ Δ ∨ d ∈ Δ' → d.P H' := fun z => d.loc k (fun b hb w => far d z b hb (hA b w)) (W.all d (by rw [e]; rcases z with z | z <;> simp [z]))
    rcases hd with z | z | z
    · exact old (.inl z)
    · exact z ▸ hc
    · exact old (.inr z)
  · rw [f, feet_app, feet_cons, List.nodup_append, List.nodup_append]
    have sep : ∀ a, a ∈ c'.foot → ∀ d, d ∈ Δ ∨ d ∈ Δ' → a ∉ d.foot := fun a ha d hd z => (fB a ha).elim (far d hd a z) (hasO d hd a z)
    refine ⟨nd.1, ⟨c'.nd hc, nd.2.1.2.1, fun a ha b hb e => ?_⟩, fun a ha b hb e => ?_⟩
    · obtain ⟨d, hd, hbd⟩ := mem_feet.mp hb
      exact sep a ha d (.inr hd) (e ▸ hbd)
    · rw [List.mem_append] at hb
      rcases hb with hb | hb
      · obtain ⟨d, hd, had⟩ := mem_feet.mp ha
        exact sep b hb d (.inl hd) (e ▸ had)
      · exact nd.2.2 a ha b (List.mem_append_right _ hb) e
  · have k1 : Step (feet Γ) (feet (Γ.set i c')) H H' := by
      refine ⟨fun b o q n => k.kp b o q fun z => n (mem_feet.mpr ⟨c, List.mem_of_getElem? hi, hA b z⟩), fun b hb => ?_, k.tp⟩
      rw [f, feet_app, feet_cons, List.mem_append, List.mem_append] at hb
      rw [e, feet_app, feet_cons, List.mem_append, List.mem_append]
      rcases hb with hb | hb | hb
      · exact .inl (.inl hb)
      · exact (fB b hb).imp (fun z => .inr (.inl z)) id
      · exact .inl (.inr (.inr hb))
    exact W.st.trans k1
/-- one part is seen as another (with no more feet) -/
theorem Wd.see (W : Wd A0 H0 Γ H) (hi : Γ[i]? = some c) (c' : Ck) (hc : c'.P H) (hB : ∀ b, b ∈ c'.foot → b ∈ c.foot) : Wd A0 H0 (Γ.set i c') H :=
  W.turn hi c' (Step.refl [] H) hc (fun _ z => by simp at z) fun b hb => .inr (.inl (hB b hb))
/-- what may not be changed stays -/
theorem Wd.rd (W : Wd A0 H0 Γ H) (c : Ck) (h : c.P H0) (n : ∀ b, b ∈ c.foot → b ∉ A0) : c.P H := c.loc W.st n h
theorem Wd.fewer (W : Wd A0 H0 Γ H) (s : Γ'.Sublist Γ) : Wd A0 H0 Γ' H := by
  have s2 : (feet Γ').Sublist (feet Γ) := by
    have f : ∀ {x y : List Ck}, x.Sublist y → (feet x).Sublist (feet y) := fun {x y} h => by
      induction h with
      | slnil => exact List.Sublist.refl _
      | cons a _ ih => rw [feet_cons]; exact ih.trans (List.sublist_append_right _ _)
      | cons_cons a _ ih => rw [feet_cons, feet_cons]; exact List.Sublist.append (List.Sublist.refl _) ih
    exact f s
  exact ⟨fun c hc => W.all c (s.mem hc), s2.nodup W.nd, W.st.sub fun b hb => .inl (s2.mem hb)⟩
theorem Wd.start (Γ : List Ck) (H : Hp) (h : ∀ c ∈ Γ, c.P H) (nd : (feet Γ).Nodup) : Wd (feet Γ) H Γ H := ⟨h, nd, Step.refl _ _⟩
theorem Wd.start1 (c : Ck) (H : Hp) (h : c.P H) : Wd c.foot H [c] H := ⟨fun d hd => by rw [List.mem_singleton] at hd; exact hd ▸ h, by rw [show feet [c] = c.foot by simp [feet]]; exact c.nd h, by rw [show feet [c] = c.foot by simp [feet]]; exact Step.refl _ _⟩
theorem Wd.start0 (H : Hp) : Wd [] H [] H := ⟨fun _ z => (by cases z), List.nodup_nil, Step.refl _ _⟩
/-- from here on -/
theorem Wd.anew (W : Wd A0 H0 Γ H) : Wd (feet Γ) H Γ H := ⟨W.all, W.nd, Step.refl _ _⟩
/-- what a row of parts went through -/
theorem Wd.chain (W : Wd A0 H0 Γ H) (W2 : Wd (feet Γ) H Γ' H1) : Wd A0 H0 Γ' H1 := ⟨W2.all, W2.nd, W.st.trans W2.st⟩
end
/-! ### single things -/
/-- one list, or another thing, as it stands -/
def cell (a : Addr) (o : HO) : Ck where
  foot := [a]
  P := fun H => H a = some o
  loc := fun k n h => k.at h (n a (by simp))
  has := fun h b hb => by
    rw [List.mem_singleton] at hb
    rw [hb, h]
    simp
  nd := fun _ => by simp
/-- a list of numbers -/
abbrev intsC (a : Addr) (l : List Int) : Ck := cell a (.lst (l.map V.int))
/-- the draws' state -/
abbrev drawC (st a : Addr) (b n : Nat) : Ck := cell st (.lst [.ref a, .int b, .int n])
/-- a list of pairs of numbers -/
def lotC (a : Addr) (l : List (Int × Int)) : Ck where
  foot := [a]
  P := fun H => LotAt H a l
  loc := fun k n h => h.imp fun ts h => ⟨k.at h.1 (n a (by simp)), h.2.imp fun t p _ _ e => tupAt_step k e⟩
  has := fun h b hb => by
    rw [List.mem_singleton] at hb
    obtain ⟨ts, e, _⟩ := h
    rw [hb, e]
    simp
  nd := fun _ => by simp
/-- the script: it stands somewhere, or is known -/
def scrC (K : PySem.W.Frag) (f : List Addr) (a : Addr) (ns : List Int) : Ck where
  foot := f
  P := fun H => (f = [a] ∧ H a ≠ none ∧ SqL K H a (ns.map V.int)) ∨ (f = [] ∧ ∀ H', SqL K H' a (ns.map V.int))
  loc := fun {A A' H H'} k n h => h.imp (fun z => ⟨z.1, by
      obtain ⟨rfl, h1, _⟩ := z
      exact k.has h1 (n a (by simp)), by
      obtain ⟨rfl, h1, h2⟩ := z
      exact seq_kp (A := fun b => b ∈ A) h2 k.kp (n a (by simp))⟩) id
  has := fun {H} h b hb => by
    rcases h with ⟨rfl, h, _⟩ | ⟨rfl, _⟩
    · rw [List.mem_singleton] at hb
      exact hb ▸ h
    · cases hb
  nd := fun h => by
    rcases h with ⟨rfl, _⟩ | ⟨rfl, _⟩ <;> simp
def diskC (K : PySem.W.Frag) (L : DL) (s : Dsk) : Ck where
  foot := L.foot
  P := fun H => DiskAt K H L s
  loc := fun k n h => h.step k n
  has := fun h b hb => h.has hb
  nd := fun h => h.nd
def stoC (K : PySem.W.Frag) (L : SL) (s : Sto) : Ck where
  foot := L.foot
  P := fun H => StoAt K H L s
  loc := fun k n h => h.step k n
  has := fun h b hb => h.has hb
  nd := fun h => h.nd
def nilC : Ck where
  foot := []
  P := fun _ => True
  loc := fun _ _ _ => trivial
  has := fun _ b hb => by cases hb
  nd := fun _ => List.nodup_nil
section
variable {K : PySem.W.Frag} {A0 A A' : List Addr} {H0 H H' H1 : Hp} {Γ Γ' : List Ck} {c c' d : Ck} {i j : Nat}
/-- a new thing by itself -/
theorem Wd.one (W : Wd A0 H0 Γ H) {p : Addr} {o : HO} (hp : H p = none) : Wd A0 H0 (cell p o :: Γ) (upd H p o) :=
  W.new (cell p o) (same_upd hp) upd_same fun b hb => by
    rw [show b = p by simpa [cell] using hb]
    exact hp
/-- a thing that a call made -/
theorem Wd.told (W : Wd A0 H0 Γ H) {p : Addr} {o : HO} (hp : H p = none) (s : Same H H') (h : H' p = some o) : Wd A0 H0 (cell p o :: Γ) H' :=
  W.new (cell p o) s h fun b hb => by
    rw [show b = p by simpa [cell] using hb]
    exact hp
/-- a store at one thing -/
theorem Wd.put (W : Wd A0 H0 Γ H) {a : Addr} {o o' : HO} (hi : Γ[i]? = some (cell a o)) (nt : ∀ xs, o ≠ .tup xs) : Wd A0 H0 (Γ.set i (cell a o')) (upd H a o') :=
  W.turn hi (cell a o') (A := [a]) (A' := [a]) ((Step.refl [a] H).upd (.inr ⟨by simp, fun xs e => nt xs (Option.some.inj ((W.get hi).symm.trans e))⟩)) upd_same (fun b hb => hb) fun b hb => .inl hb
theorem Wd.draw (W : Wd A0 H0 Γ H) {st a : Addr} {b n n' : Nat} (hi : Γ[i]? = some (drawC st a b n)) (k : Kp (fun b => b = st) H H') (t : ∀ b xs, H b = some (.tup xs) → H' b = some (.tup xs)) (h : H' st = some (.lst [.ref a, .int b, .int n'])) : Wd A0 H0 (Γ.set i (drawC st a b n')) H' :=
  W.turn hi (drawC st a b n') (A := [st]) (A' := [st]) ⟨fun c o e q => k c o e fun z => q (by simp [z]), fun c z => .inl z, t⟩ h (fun b hb => hb) fun b hb => .inl hb
theorem Wd.scr (W : Wd A0 H0 Γ H) {f : List Addr} {st a : Addr} {b n : Nat} {ns : List Int} (hi : Γ[i]? = some (scrC K f a ns)) (hj : Γ[j]? = some (drawC st a b n)) (n : i ≠ j := by decide) : ScrSt K H st a ns := by
  have h := W.get hi
  have q := W.apart hi hj n
  rcases h with ⟨rfl, h, s⟩ | ⟨_, s⟩
  · exact .inl ⟨fun z => q a (by simp [scrC]) (by simp [cell, z]), s⟩
  · exact .inr s
end
theorem lot_few {s : Dsk} (ok : s.Ok) {lot : List (Int × Int)} (h : lot ∈ s.lots) : lot.length ≤ 1000000 := by
  refine Nat.le_trans ?_ ok.few
  obtain ⟨l1, l2, e⟩ := List.append_of_mem h
  conv => rhs; rw [e, List.flatten_append, List.length_append, List.flatten_cons, List.length_append]
  omega
/-- a pair more -/
theorem Wd.pushLot {A0 : List Addr} {H0 H : Hp} {Γ : List Ck} {i : Nat} (W : Wd A0 H0 Γ H) {a t : Addr} {ks : List (Int × Int)} {ts : List Addr} {p : Int × Int} (hi : Γ[i]? = some (lotC a ks)) (hv : H a = some (.lst (ts.map V.ref))) (ha : All2 (TupAt H) ts ks) (ht : TupAt H t p) :
    Wd A0 H0 (Γ.set i (lotC a (ks ++ [p]))) (upd H a (.lst (ts.map V.ref ++ [.ref t]))) := by
  have k : Step [a] [a] H (upd H a (.lst (ts.map V.ref ++ [.ref t]))) := (Step.refl [a] H).upd (.inr ⟨by simp, fun xs => nt_lst hv⟩)
  exact W.turn hi (lotC a _) k ⟨ts ++ [t], by rw [upd_same, List.map_append]; rfl, (ha.imp fun t p _ _ e => tupAt_step k e).append (.one (tupAt_step k ht))⟩ (fun b hb => hb) fun b hb => .inl hb
/-- one part went on, and something new stands beside it -/
theorem Wd.turnNew {A0 A A' : List Addr} {H0 H H' : Hp} {Γ : List Ck} {c : Ck} {i : Nat} (W : Wd A0 H0 Γ H) (hi : Γ[i]? = some c) (c' d : Ck) (k : Step A A' H H') (hc : c'.P H') (hd : d.P H') (hA : ∀ b, b ∈ A → b ∈ c.foot) (hB : ∀ b, b ∈ c'.foot → b ∈ A' ∨ b ∈ c.foot ∨ H b = none)
    (hf : ∀ b, b ∈ d.foot → H b = none) (hx : ∀ b, b ∈ d.foot → b ∉ c'.foot) : Wd A0 H0 (d :: Γ.set i c') H' := by
  have W1 := W.turn hi c' k hc hA hB
  refine ⟨fun e he => (List.mem_cons.mp he).elim (fun z => z ▸ hd) (W1.all e), ?_, W1.st.kp, fun b hb => ?_, W1.st.tp⟩
  · rw [feet_cons, List.nodup_append]
    refine ⟨d.nd hd, W1.nd, fun a ha b hb e => ?_⟩
    subst e
    obtain ⟨x, hx1, hx2⟩ := mem_feet.mp hb
    rcases List.mem_or_eq_of_mem_set hx1 with z | z
    · exact W.hasAt (mem_feet.mpr ⟨x, z, hx2⟩) (hf _ ha)
    · exact hx _ ha (z ▸ hx2)
  · rw [feet_cons, List.mem_append] at hb
    exact hb.elim (fun z => W.none0 (hf b z)) (W1.st.nw b)
/-- rows of anything -/
def rowsC (a : Addr) (l : List (List V)) : Ck where
  foot := [a]
  P := fun H => ∃ ts, H a = some (.lst (ts.map V.ref)) ∧ All2 (fun t xs => H t = some (.tup xs)) ts l
  loc := fun k n h => h.imp fun ts h => ⟨k.at h.1 (n a (by simp)), h.2.imp fun t p _ _ e => k.tp _ _ e⟩
  has := fun h b hb => by
    rw [List.mem_singleton] at hb
    obtain ⟨ts, e, _⟩ := h
    rw [hb, e]
    simp
  nd := fun _ => by simp
theorem Wd.pushRow {A0 : List Addr} {H0 H : Hp} {Γ : List Ck} {i : Nat} (W : Wd A0 H0 Γ H) {a t : Addr} {ks : List (List V)} {ts : List Addr} {p : List V} (hi : Γ[i]? = some (rowsC a ks)) (hv : H a = some (.lst (ts.map V.ref))) (ha : All2 (fun t xs => H t = some (.tup xs)) ts ks) (ht : H t = some (.tup p)) :
    Wd A0 H0 (Γ.set i (rowsC a (ks ++ [p]))) (upd H a (.lst (ts.map V.ref ++ [.ref t]))) := by
  have k : Step [a] [a] H (upd H a (.lst (ts.map V.ref ++ [.ref t]))) := (Step.refl [a] H).upd (.inr ⟨by simp, fun xs => nt_lst hv⟩)
  exact W.turn hi (rowsC a _) k ⟨ts ++ [t], by rw [upd_same, List.map_append]; rfl, (ha.imp fun t p _ _ e => k.tp _ _ e).append (.one (k.tp _ _ ht))⟩ (fun b hb => hb) fun b hb => .inl hb
/-- a list of lists of pairs -/
def lotsC (a : Addr) (ps : List Addr) (ls : List (List (Int × Int))) : Ck where
  foot := a :: ps
  P := fun H => H a = some (.lst (ps.map V.ref)) ∧ All2 (LotAt H) ps ls ∧ (a :: ps).Nodup
  loc := fun {A A' H H'} k n h => ⟨k.at h.1 (n a (by simp)), h.2.1.imp fun p l hp _ e => (lotC p l).loc k (fun b hb => n b (by
      rw [show b = p by simpa [lotC] using hb]
      simp [hp])) e, h.2.2⟩
  has := fun h b hb => by
    rcases List.mem_cons.mp hb with rfl | hb
    · rw [h.1]
      simp
    · obtain ⟨l, _, ts, e, _⟩ := h.2.1.mem hb
      rw [e]
      simp
  nd := fun h => h.2.2
theorem scr_st {K : PySem.W.Frag} {H : Hp} {f : List Addr} {st a : Addr} {ns : List Int} (h : (scrC K f a ns).P H) (n : st ∉ f) : ScrSt K H st a ns := by
  rcases h with ⟨rfl, _, s⟩ | ⟨_, s⟩
  · exact .inl ⟨fun z => n (by simp [z]), s⟩
  · exact .inr s
/-- two parts as one -/
def sepC (c d : Ck) : Ck where
  foot := c.foot ++ d.foot
  P := fun H => c.P H ∧ d.P H ∧ (c.foot ++ d.foot).Nodup
  loc := fun k n h => ⟨c.loc k (fun b hb => n b (List.mem_append_left _ hb)) h.1, d.loc k (fun b hb => n b (List.mem_append_right _ hb)) h.2.1, h.2.2⟩
  has := fun h b hb => (List.mem_append.mp hb).elim (c.has h.1 b) (d.has h.2.1 b)
  nd := fun h => h.2.2
section
variable {A0 A A' : List Addr} {H0 H H' : Hp} {Γ Γ' : List Ck} {c d : Ck} {i : Nat}
theorem Wd.join (W : Wd A0 H0 (c :: d :: Γ) H) : Wd A0 H0 (sepC c d :: Γ) H := by
  have ef : feet (c :: d :: Γ) = feet (sepC c d :: Γ) := by
    simp only [feet_cons]
    show _ = (c.foot ++ d.foot) ++ _
    rw [List.append_assoc]
  have nd := W.nd
  rw [ef] at nd
  refine ⟨fun e he => ?_, nd, by rw [← ef]; exact W.st⟩
  rcases List.mem_cons.mp he with rfl | he
  · rw [feet_cons, List.nodup_append] at nd
    exact ⟨W.all c (by simp), W.all d (by simp), nd.1⟩
  · exact W.all e (by simp [he])
theorem Wd.split (W : Wd A0 H0 (sepC c d :: Γ) H) : Wd A0 H0 (c :: d :: Γ) H := by
  have ef : feet (c :: d :: Γ) = feet (sepC c d :: Γ) := by
    simp only [feet_cons]
    show _ = (c.foot ++ d.foot) ++ _
    rw [List.append_assoc]
  have h0 := W.all (sepC c d) (by simp)
  refine ⟨fun e he => ?_, by rw [ef]; exact W.nd, by rw [ef]; exact W.st⟩
  rcases List.mem_cons.mp he with rfl | he
  · exact h0.1
  · rcases List.mem_cons.mp he with rfl | he
    · exact h0.2.1
    · exact W.all e (by simp [he])
theorem Wd.perm (W : Wd A0 H0 Γ H) (p : Γ'.Perm Γ) : Wd A0 H0 Γ' H := by
  have ef : (feet Γ').Perm (feet Γ) := (p.map _).flatten
  exact ⟨fun c hc => W.all c (p.mem_iff.mp hc), (ef.nodup_iff).mpr W.nd, W.st.sub fun b hb => .inl (ef.mem_iff.mp hb)⟩
/-- a store is made over a disk -/
theorem Wd.mkSto {K : PySem.W.Frag} (W : Wd A0 H0 Γ H) {D : DL} {d : Dsk} {L : SL} {s : Sto} {x dx C : Addr} (hi : Γ[i]? = some (diskC K D d)) (hx : H x = none) (hdx : H dx = none) (hL : StoAt K H' L s) (k : Step (x :: D.foot) L.foot (upd (upd H dx (.own x)) x (.ins C dx [])) H') : Wd A0 H0 (Γ.set i (stoC K L s)) H' := by
  have m := Step.made (C := C) hx hdx
  have k2 : Step D.foot L.foot H H' := by
    refine ⟨fun b o e n => k.kp b o (m.kp b o e (by simp)) fun z => (List.mem_cons.mp z).elim (fun z => ne_of_none e hx z) n, fun b hb => ?_, fun b xs e => k.tp _ _ (m.tp _ _ e)⟩
    rcases k.nw b hb with z | z
    · exact (List.mem_cons.mp z).elim (fun z => .inr (z ▸ hx)) .inl
    · exact .inr ((step_nil2 m).free z)
  exact W.turn hi (stoC K L s) k2 hL (fun b hb => hb) fun b hb => .inl hb
/-- a disk is made -/
theorem Wd.mkDisk {K : PySem.W.Frag} (W : Wd A0 H0 Γ H) {D : DL} {d : Dsk} {x dx C : Addr} (hx : H x = none) (hdx : H dx = none) (hD : DiskAt K H' D d) (k : Step [x] D.foot (upd (upd H dx (.own x)) x (.ins C dx [])) H') : Wd A0 H0 (diskC K D d :: Γ) H' := by
  have m := Step.made (C := C) hx hdx
  have s : Same H H' := fun b o e => k.kp b o (m.kp b o e (by simp)) fun z => ne_of_none e hx (by simpa using z)
  refine W.new (diskC K D d) s hD fun b hb => ?_
  rcases k.nw b hb with z | z
  · rw [List.mem_singleton] at z
    exact z ▸ hx
  · exact (step_nil2 m).free z
/-- a store is looked at as its disk alone -/
theorem Wd.seeDisk {K : PySem.W.Frag} (W : Wd A0 H0 Γ H) {L : SL} {s : Sto} (hi : Γ[i]? = some (stoC K L s)) : Wd A0 H0 (Γ.set i (diskC K L.d s.d)) H :=
  W.see hi (diskC K L.d s.d) (show StoAt K H L s from W.get hi).d fun b hb => by
    show b ∈ L.foot
    unfold SL.foot
    exact List.mem_append_left _ hb
end
theorem Wd.drawNew {A0 : List Addr} {H0 H H' : Hp} {Γ : List Ck} {i : Nat} (W : Wd A0 H0 Γ H) {st a : Addr} {b n n' : Nat} (hi : Γ[i]? = some (drawC st a b n)) (d : Ck) (k : Kp (fun b => b = st) H H') (t : ∀ b xs, H b = some (.tup xs) → H' b = some (.tup xs)) (h : H' st = some (.lst [.ref a, .int b, .int n'])) (hd : d.P H') (hf : ∀ b, b ∈ d.foot → H b = none) : Wd A0 H0 (d :: Γ.set i (drawC st a b n')) H' :=
  W.turnNew hi (drawC st a b n') d (A := [st]) (A' := [st]) ⟨fun c o e q => k c o e fun z => q (by simp [z]), fun c z => .inl z, t⟩ h hd (fun b hb => hb) (fun b hb => .inl hb) hf fun c hc z => by
    have e : H st = some _ := W.get hi
    rw [show c = st by simpa [cell] using z] at hc
    rw [hf st hc] at e
    cases e
def atR (l : List Int) (r : Int) : Int := (l[r.toNat]?).getD 0
theorem atR_set {l : List Int} {r q n : Int} (hr : 0 ≤ r) (hq : 0 ≤ q) (h : q < l.length) : atR (l.set q.toNat n) r = if r = q then n else atR l r := by
  unfold atR
  by_cases e : r = q
  · subst e
    rw [if_pos rfl, List.getElem?_set_self (by omega)]
    rfl
  · rw [if_neg e, List.getElem?_set_ne (by omega)]
theorem atI_at {l : List Int} {r : Int} (h0 : 0 ≤ r) (h1 : r < l.length) : atI (l.map V.int) r = some (.int (atR l r)) := by
  have : (l.map V.int)[r.toNat]? = some (.int (atR l r)) := by
    unfold atR
    rw [List.getElem?_map, List.getElem?_eq_getElem (by omega)]
    rfl
  have := atI_of this
  rw [Int.toNat_of_nonneg h0] at this
  exact this
theorem ixN_at {l : List Int} {r : Int} (h0 : 0 ≤ r) (h1 : r < l.length) : ixN (l.map V.int).length r = some r.toNat := by
  have e := ixN_of (n := (l.map V.int).length) (j := r.toNat) (by rw [List.length_map]; omega)
  rw [Int.toNat_of_nonneg h0] at e
  exact e
theorem scr_start {K : PySem.W.Frag} {H : Hp} {a : Addr} {ns : List Int} (h : SqL K H a (ns.map V.int)) : ∃ f, (scrC K f a ns).P H := by
  by_cases e : H a = none
  · rcases h with h | h
    · rcases h with h | ⟨_, h⟩ <;> rw [e] at h <;> cases h
    · exact ⟨[], .inr ⟨rfl, fun H' => .inr h⟩⟩
  · exact ⟨[a], .inl ⟨rfl, e, h⟩⟩
theorem feet_pick {Γ : List Ck} (nd : (feet Γ).Nodup) : ∀ is : List Nat, is.Nodup → (feet (is.filterMap fun i => Γ[i]?)).Nodup
  | [], _ => List.nodup_nil
  | i :: is, h => by
    rw [List.nodup_cons] at h
    have ih := feet_pick nd is h.2
    cases e : Γ[i]? with
    | none =>
      rw [List.filterMap_cons_none e]
      exact ih
    | some c =>
      rw [List.filterMap_cons_some e, feet_cons, List.nodup_append]
      refine ⟨?_, ih, fun a ha b hb eab => ?_⟩
      · obtain ⟨Δ, Δ', eΓ, _⟩ := feet_set e
        rw [eΓ, feet_app, feet_cons, List.nodup_append, List.nodup_append] at nd
        exact nd.2.1.1
      · subst eab
        obtain ⟨d, hd, hbd⟩ := mem_feet.mp hb
        obtain ⟨j, hj, ej⟩ := List.mem_filterMap.mp hd
        exact apart_of nd e ej (fun z => h.1 (z ▸ hj)) ha hbd
/-- some of the parts, in another turn -/
theorem Wd.pick {A0 : List Addr} {H0 H : Hp} {Γ Γ' : List Ck} (W : Wd A0 H0 Γ H) (is : List Nat) (e : (is.filterMap fun i => Γ[i]?) = Γ' := by rfl) (h : is.Nodup := by decide) : Wd A0 H0 Γ' H := by
  subst e
  refine ⟨fun c hc => ?_, feet_pick W.nd is h, W.st.sub fun b hb => .inl ?_⟩
  · obtain ⟨i, _, ei⟩ := List.mem_filterMap.mp hc
    exact W.get ei
  · obtain ⟨d, hd, hbd⟩ := mem_feet.mp hb
    obtain ⟨j, hj, ej⟩ := List.mem_filterMap.mp hd
    exact mem_feet.mpr ⟨d, List.mem_of_getElem? ej, hbd⟩
theorem Wd.st1 {A0 : List Addr} {H0 H : Hp} {c : Ck} (W : Wd A0 H0 [c] H) : Step A0 c.foot H0 H := by
  have := W.st
  rw [feet_cons, show feet [] = [] from rfl, List.append_nil] at this
  exact this
end SY

/-! ## Prog, part X: the laws' own disks -/
namespace SY
open PySem PySem.Spec PyProof.Rows L2 XB
/-- late[room] = number, for all pairs of a list -/
theorem putW {K : PySem.W.Frag} {A0 : List Addr} {H0 H : Hp} {Γ : List Ck} {j : Nat} {D : Ends} {ka a : Addr} {ks : List (Int × Int)} {ls : List Int} {i1 i2 i3 : Nat} {σ0 : L2.St} (W : Wd A0 H0 Γ H) (hj : Γ[j]? = some (intsC a ls)) (hk : LotAt H ka ks) (hka : ka ≠ a) (hrg : ∀ p ∈ ks, 0 ≤ p.1 ∧ p.1 < ls.length)
    (hi3 : ∀ x y, (((σ0.set i1 x).set i2 y)[i1]? = some x) ∧ (((σ0.set i1 x).set i2 y)[i2]? = some y) ∧ (((σ0.set i1 x).set i2 y)[i3]? = some (some (.ref a))) ∧ ∀ u v, ((σ0.set i1 x).set i2 y |>.set i1 u).set i2 v = (σ0.set i1 u).set i2 v) (hs0 : ∃ x y, σ0 = (σ0.set i1 x).set i2 y)
    (nx : ∀ σ' H', Wd A0 H0 (Γ.set j (intsC a (ks.foldl setP ls))) H' → Step [a] [a] H H' → (∃ x y, σ' = (σ0.set i1 x).set i2 y) → D.nx σ' H') :
    ∃ W : Nat → Nat → L2.St → Hp → Prop, (∃ m, W 0 m σ0 H) ∧ ∀ n m σ H, W n m σ H →
      ((Itl K ka).stop n H ∧ D.nx σ H) ∨ ((Itl K ka).go n H ∧ ∃ N : L2.St → Hp → Prop, (∀ σ' H', N σ' H' → ∃ m', m' < m ∧ W (n + 1) m' σ' H') ∧ ∀ x H', (Itl K ka).yld n H x H' → gTup K 2 (gCons (gName i1) (gCons (gName i2) gNil)) x σ H' fun σ2 H2 => (tAsg (tVar i2) (gSub (tVar i3) (tVar i1) rSetL)) { D with nx := N, ct := N, bk := D.nx } σ2 H2) := by
  obtain ⟨kts, hkl, tk⟩ := hk
  have na : ∀ {b : Addr}, b ≠ a → b ∉ [a] := fun n z => n (by simpa using z)
  refine for_list (xs := kts.map V.ref) (fun n σ H1 => Step [a] [a] H H1 ∧ H1 a = some (.lst (((ks.take n).foldl setP ls).map V.int)) ∧ ∃ x y, σ = (σ0.set i1 x).set i2 y)
    ⟨Step.refl _ _, W.get hj, hs0⟩ (fun n σ H1 _ h1 => SqL.of (h1.1.at hkl (na hka))) ?_ ?_
  · rintro n x σ H1 hx ⟨k1, hv, u, v, rfl⟩
    rw [List.getElem?_map] at hx
    obtain ⟨t, ht, rfl⟩ := Option.map_eq_some_iff.mp hx
    obtain ⟨p, hp, tp⟩ := tk.get ht
    have e0 := tupAt_step k1 tp
    refine ⟨t, _, rfl, SqT.of e0, rfl, _, _, rfl, _, _, rfl, rfl, ?_⟩
    obtain ⟨e1, e2, e3, e4⟩ := hi3 (some (.int p.1)) (some (.int p.2))
    rw [(hi3 u v).2.2.2]
    have rg := hrg p (List.mem_of_getElem? hp)
    refine ⟨_, e2, _, e3, _, e1, a, _, p.1, p.1.toNat, rfl, rfl, hv, ?_, ?_⟩
    · have lt : p.1.toNat < (((ks.take n).foldl setP ls).map V.int).length := by
        rw [List.length_map, foldl_setP_len]
        omega
      have e := ixN_of lt
      rw [Int.toNat_of_nonneg rg.1] at e
      exact e
    · refine ⟨k1.upd (.inr ⟨by simp, fun xs => nt_lst hv⟩), ?_, _, _, rfl⟩
      rw [upd_same, take_one hp, List.foldl_append]
      simp only [List.foldl_cons, List.foldl_nil, setP, List.map_set]
  · rintro σ H1 ⟨k1, hv, hs⟩
    rw [List.length_map, tk.len, List.take_length] at hv
    exact nx σ H1 (W.turn hj (intsC a _) k1 hv (fun b hb => hb) fun b hb => .inl hb) k1 hs
/-! ### an own disk: {"sure": .., "lots": ..} -/
structure OL where
  o : Addr
  ls : Addr
  lo : Addr
  lots : List Addr
def OL.foot (L : OL) : List Addr := L.o :: L.ls :: L.lo :: L.lots
def ownKV (L : OL) : List (Key × V) := [(.inr "sure", .ref L.ls), (.inr "lots", .ref L.lo)]
structure OwnAt (H : Hp) (L : OL) (s : Dsk) : Prop where
  ob : H L.o = some (.dK (ownKV L))
  ls : H L.ls = some (.lst (s.sure.map V.int))
  lo : H L.lo = some (.lst (L.lots.map V.ref))
  lots : All2 (LotAt H) L.lots s.lots
  nd : (L.o :: L.ls :: L.lo :: L.lots).Nodup
theorem OwnAt.getS {H : Hp} {L : OL} {s : Dsk} (h : OwnAt H L s) : DGet H L.o (.str "sure") (some (.ref L.ls)) := DGet.k (k := .inr "sure") h.ob
theorem OwnAt.getL {H : Hp} {L : OL} {s : Dsk} (h : OwnAt H L s) : DGet H L.o (.str "lots") (some (.ref L.lo)) := DGet.k (k := .inr "lots") h.ob
theorem OwnAt.step {H H' : Hp} {A A' : List Addr} {L : OL} {s : Dsk} (h : OwnAt H L s) (k : Step A A' H H') (no : ∀ b, b ∈ L.foot → b ∉ A) : OwnAt H' L s := by
  have f : ∀ b, b ∈ L.foot → b ∉ A := no
  unfold OL.foot at f
  refine ⟨k.at h.ob (f _ (by simp)), k.at h.ls (f _ (by simp)), k.at h.lo (f _ (by simp)), h.lots.imp fun a lot ha _ => ?_, h.nd⟩
  rintro ⟨ts, e, t⟩
  exact ⟨ts, k.at e (f _ (by simp [ha])), t.imp fun t p _ _ e => tupAt_step k e⟩
theorem OwnAt.same {H H' : Hp} {L : OL} {s : Dsk} (h : OwnAt H L s) (k : Same H H') : OwnAt H' L s := h.step (Step.same [] k) (fun _ _ z => by simp at z)
theorem OwnAt.has {H : Hp} {L : OL} {s : Dsk} (h : OwnAt H L s) {b : Addr} (hb : b ∈ L.foot) : H b ≠ none := by
  unfold OL.foot at hb
  simp only [List.mem_cons] at hb
  rcases hb with rfl | rfl | rfl | hb
  · simp [h.ob]
  · simp [h.ls]
  · simp [h.lo]
  · obtain ⟨lot, _, ts, e, _⟩ := h.lots.mem hb
    simp [e]
def ownC (L : OL) (s : Dsk) : Ck where
  foot := L.foot
  P := fun H => OwnAt H L s
  loc := fun k n h => h.step k n
  has := fun h b hb => h.has hb
  nd := fun h => h.nd
def sp__law_with (K : PySem.W.Frag) : Sp := fun vs H Q _ => ∃ L s m, vs = [.ref L.o, .int (m : Nat)] ∧ OwnAt H L s ∧ s.Ok ∧ m ≤ s.lots.length ∧ ∀ p H', H p = none → Same H H' → H' p = some (.lst ((s.with_ m).map V.int)) → Q (.ref p) H'
def t__law_with (K : PySem.W.Frag) : TS := (tSeq (tAsg (tCB (xList K) (tCons (tDGet (tVar 0) (tC (.str "sure"))) tNil)) (gName 2))
    (tSeq (tFor (iList K (tSl (rSlL K) (tDGet (tVar 0) (tC (.str "lots"))) tNoPart (tPart (tVar 1)))) (gName 3) (tFor (iList K (tVar 3)) (gTup K 2 (gCons (gName 4) (gCons (gName 5) gNil))) (tAsg (tVar 5) (gSub (tVar 2) (tVar 4) rSetL))))
    (tRet (tVar 2))))
theorem len__law_with {K : PySem.W.Frag} (vs : List V) (H : Hp) (Q : VK) (E : XK) (h : sp__law_with K vs H Q E) : vs.length = (["_law_disk", "_law_much"] : List Str).length := by
  unfold sp__law_with at h
  repeat (first | (obtain ⟨e, _⟩ := h; rw [e]; done) | (obtain ⟨e, _⟩ := h; rw [e]; rfl; done) | obtain ⟨_, h⟩ := h)
theorem pure__law_with {K : PySem.W.Frag} (pf : PF K) {vs : List V} {H : Hp} {Q : VK} {E : XK} (h : sp__law_with K vs H Q E) : t__law_with K { nx := fun _ H' => Q .non H', rt := Q } (start ["_law_disk", "_law_much", "_law_found", "_law_lot", "_law_room", "_law_number_here"] vs) H := by
  obtain ⟨L, s, m, rfl, h, ok, hm, q⟩ := h
  refine ⟨_, rfl, L.o, _, rfl, h.getS, _, _, rfl, .inl (SqL.of h.ls), fun p hp => ?_⟩
  have W1 := (Wd.start0 H).one (o := .lst (s.sure.map V.int)) hp
  have h1 := h.same (same_upd (o := .lst (s.sure.map V.int)) hp)
  have len := h.lots.len
  have ecut : cutV (L.lots.map V.ref) none (some (m : Int)) = (L.lots.take m).map V.ref := by
    unfold cutV HT.sIx
    dsimp only
    rw [if_neg (by omega), List.length_map, List.map_take]
    simp only [List.drop_zero, Nat.sub_zero, Int.toNat_natCast]
    congr 1
    omega
  refine ⟨_, rfl, L.o, _, rfl, h1.getL, _, rfl, _, rfl, _, _, rfl, SqL.of h1.lo, fun c hc => ?_⟩
  have W2 := W1.one (o := .lst (cutV (L.lots.map V.ref) none (some (m : Int)))) hc
  rw [ecut] at W2 ⊢
  refine ⟨c, rfl, ⟨_, SqL.of upd_same⟩, ?_⟩
  refine for_list (xs := (L.lots.take m).map V.ref) (fun n σ H1 => Wd [] H [cell c (.lst ((L.lots.take m).map V.ref)), intsC p (((s.lots.take m).take n).flatten.foldl setP s.sure)] H1 ∧ ∃ v3 v4 v5, σ = [some (.ref L.o), some (.int (m : Nat)), some (.ref p), v3, v4, v5])
    ⟨W2, _, _, _, rfl⟩ (fun n σ H1 _ h1 => SqL.of (h1.1.get (i := 0) rfl)) ?_ ?_
  · rintro n x σ H1 hx ⟨W3, v3, v4, v5, rfl⟩
    rw [List.getElem?_map] at hx
    obtain ⟨la, hla, rfl⟩ := Option.map_eq_some_iff.mp hx
    have hn := (List.getElem?_eq_some_iff.mp hla).1
    rw [List.length_take] at hn
    rw [List.getElem?_take_of_lt (by omega)] at hla
    have h3 := W3.rd (ownC L s) h (fun _ _ z => by cases z)
    obtain ⟨lot, hlot, hl⟩ := h3.lots.get hla
    have hl2 : (s.lots.take m)[n]? = some lot := by
      rw [List.getElem?_take_of_lt (by omega), hlot]
    refine ⟨_, rfl, la, rfl, (by obtain ⟨ts, e, _⟩ := hl; exact ⟨_, SqL.of e⟩), ?_⟩
    refine putW (i1 := 4) (i2 := 5) (i3 := 2) (j := 1) W3 rfl hl ?_ ?_ ?_ ?_ ?_
    · intro z
      exact h.has (b := la) (by unfold OL.foot; simp [List.mem_of_getElem? hla]) (z ▸ hp)
    · intro pr hpr
      rw [foldl_setP_len]
      exact ok.rooms lot (List.mem_of_getElem? hlot) pr hpr
    · exact fun x y => ⟨rfl, rfl, rfl, fun u v => rfl⟩
    · exact ⟨_, _, rfl⟩
    · rintro σ' H4 W4 k4 ⟨x, y, rfl⟩
      refine ⟨?_, _, _, _, rfl⟩
      rw [take_one hl2, List.flatten_append, List.foldl_append]
      simpa using W4
  · rintro σ H1 ⟨W3, v3, v4, v5, rfl⟩
    refine ⟨_, rfl, q p H1 hp (step_nil2 W3.st) ?_⟩
    have := W3.get (i := 1) rfl
    rw [List.length_map, List.length_take, List.take_take] at this
    rw [show H1 p = _ from this]
    unfold Dsk.with_
    rw [show min (min m L.lots.length) m = m by omega]
def sp__law_all_of (K : PySem.W.Frag) : Sp := fun vs H Q _ => ∃ L s, vs = [.ref L.o] ∧ OwnAt H L s ∧ s.Ok ∧ ∀ p H', H p = none → Same H H' → H' p = some (.lst (s.shown.map V.int)) → Q (.ref p) H'
def t__law_all_of (K : PySem.W.Frag) : TS := (tRet (tCall (sp__law_with K) [] E0 (tCons (tVar 0) (tCons (tCB (xLen K) (tCons (tDGet (tVar 0) (tC (.str "lots"))) tNil)) tNil))))
theorem len__law_all_of {K : PySem.W.Frag} (vs : List V) (H : Hp) (Q : VK) (E : XK) (h : sp__law_all_of K vs H Q E) : vs.length = (["_law_disk"] : List Str).length := by
  unfold sp__law_all_of at h
  repeat (first | (obtain ⟨e, _⟩ := h; rw [e]; done) | (obtain ⟨e, _⟩ := h; rw [e]; rfl; done) | obtain ⟨_, h⟩ := h)
theorem pure__law_all_of {K : PySem.W.Frag} (pf : PF K) {vs : List V} {H : Hp} {Q : VK} {E : XK} (h : sp__law_all_of K vs H Q E) : t__law_all_of K { nx := fun _ H' => Q .non H', rt := Q } (start ["_law_disk"] vs) H := by
  obtain ⟨L, s, rfl, h, ok, q⟩ := h
  refine ⟨_, rfl, _, rfl, L.o, _, rfl, h.getL, _, _, rfl, .inl (SqL.of h.lo), L, s, s.lots.length, ?_, h, ok, Nat.le_refl _, q⟩
  rw [List.length_map, h.lots.len]
  rfl
def sp__law_may_have (K : PySem.W.Frag) : Sp := fun vs H Q _ => ∃ L s lot room, vs = [.ref L.o, .int (lot : Nat), .int room] ∧ OwnAt H L s ∧ s.Ok ∧ lot < s.lots.length ∧ 0 ≤ room ∧ room < s.sure.length ∧ ∀ p H', H p = none → Same H H' → H' p = some (.lst ((mayHave s lot room).map V.int)) → Q (.ref p) H'
def t__law_may_have (K : PySem.W.Frag) : TS := (tRet (tOp rCat (tLst (tCons (tOp (rIxL K) (tCall (sp__law_with K) [] E0 (tCons (tVar 0) (tCons (tVar 1) tNil))) (tVar 2)) tNil)) (tLc (iList K (tOp (rIxL K) (tDGet (tVar 0) (tC (.str "lots"))) (tVar 1))) (gTup K 2 (gCons (gName 3) (gCons (gName 4) gNil))) (tTest (tOp rEq (tVar 3) (tVar 2))) (tVar 4) [3, 4])))
theorem len__law_may_have {K : PySem.W.Frag} (vs : List V) (H : Hp) (Q : VK) (E : XK) (h : sp__law_may_have K vs H Q E) : vs.length = (["_law_disk", "_law_lot", "_law_room"] : List Str).length := by
  unfold sp__law_may_have at h
  repeat (first | (obtain ⟨e, _⟩ := h; rw [e]; done) | (obtain ⟨e, _⟩ := h; rw [e]; rfl; done) | obtain ⟨_, h⟩ := h)
theorem pure__law_may_have {K : PySem.W.Frag} (pf : PF K) {vs : List V} {H : Hp} {Q : VK} {E : XK} (h : sp__law_may_have K vs H Q E) : t__law_may_have K { nx := fun _ H' => Q .non H', rt := Q } (start ["_law_disk", "_law_lot", "_law_room", "_law_here", "_law_number_here"] vs) H := by
  obtain ⟨L, s, lot, room, rfl, h, ok, hl, h0, h1, q⟩ := h
  have hlen : room.toNat < (s.with_ lot).length := by
    rw [Dsk.with_len]
    omega
  refine ⟨_, rfl, _, rfl, L, s, lot, rfl, h, ok, by omega, fun p H1 hp s1 e1 => ?_⟩
  refine ⟨_, rfl, p, _, room, .int (((s.with_ lot)[room.toNat]?).getD 0), rfl, rfl, SqL.of e1, ?_, of_decide_eq_true rfl, fun a ha => ?_⟩
  · have : ((s.with_ lot).map V.int)[room.toNat]? = some (.int (((s.with_ lot)[room.toNat]?).getD 0)) := by
      rw [List.getElem?_map, List.getElem?_eq_getElem hlen]
      rfl
    have := atI_of this
    rw [Int.toNat_of_nonneg h0] at this
    exact this
  have s2 := s1.trans (same_upd (o := .lst [.int (((s.with_ lot)[room.toNat]?).getD 0)]) ha)
  have h2 := h.same s2
  obtain ⟨la, hla, ts, elt, tt⟩ := h2.lots.get2 (List.getElem?_eq_getElem hl)
  have hlot : (s.lots[lot]?).getD [] = s.lots[lot] := by
    rw [List.getElem?_eq_getElem hl]
    rfl
  have lz : s.lots[lot].length ≤ 1000000 := lot_few ok (List.getElem_mem hl)
  refine ⟨_, rfl, L.o, _, rfl, h2.getL, _, rfl, L.lo, _, lot, .ref la, rfl, rfl, SqL.of h2.lo, atI_of ?_, la, rfl, ⟨_, SqL.of elt⟩, ?_⟩
  · rw [List.getElem?_map, hla]
    rfl
  refine comp_pairs (fun p => decide (p.1 = room)) (fun p => .int p.2) tt (SqL.of elt) (by omega) ?_ ?_ ?_
  · intro p hp H3 s3 Rb r
    refine ⟨_, rfl, _, rfl, rfl, _, rfl, ?_⟩
    rw [rooms_bl2]
    exact r H3 (Same.refl _)
  · intro p hp H3 s3 R r
    exact ⟨_, rfl, r H3 (Same.refl _)⟩
  · intro b H3 hb s3 e3
    refine ⟨a, b, _, _, rfl, rfl, s3 _ _ upd_same, e3, ?_, fun c hc => ?_⟩
    · rw [List.length_map]
      exact sz_ok (by have := List.length_filter_le (fun p : Int × Int => decide (p.1 = room)) s.lots[lot]; simp only [List.length_cons, List.length_nil]; omega)
    · refine q c _ ((s2.trans s3).free hc) ((s2.trans s3).trans (same_upd hc)) ?_
      rw [upd_same, mayHave, hlot]
      simp
def sp__law_cut (K : PySem.W.Frag) : Sp := fun vs H Q _ => ∃ L s lot ka ks, vs = [.ref L.o, .int (lot : Nat), .ref ka] ∧ OwnAt H L s ∧ s.Ok ∧ lot ≤ s.lots.length ∧ LotAt H ka ks ∧ (∀ p ∈ ks, 0 ≤ p.1 ∧ p.1 < s.sure.length) ∧ ka ∉ L.foot ∧
  ∀ L' H', OwnAt H' L' (s.cut lot ks) → L'.o = L.o → Step L.foot L'.foot H H' → Q (.ref L'.ls) H'
def t__law_cut (K : PySem.W.Frag) : TS := (tSeq (tAsg (tCall (sp__law_with K) [] E0 (tCons (tVar 0) (tCons (tVar 1) tNil))) (gName 3))
    (tSeq (tFor (iList K (tVar 2)) (gTup K 2 (gCons (gName 4) (gCons (gName 5) gNil))) (tAsg (tVar 5) (gSub (tVar 3) (tVar 4) rSetL)))
    (tSeq (tAsg (tTup (tCons (tVar 3) (tCons (tLst (tCons (tLst tNil) tNil)) tNil))) (gTup K 2 (gCons (gSub (tVar 0) (tC (.str "sure")) rSetD) (gCons (gSub (tVar 0) (tC (.str "lots")) rSetD) gNil))))
    (tRet (tVar 3)))))
theorem len__law_cut {K : PySem.W.Frag} (vs : List V) (H : Hp) (Q : VK) (E : XK) (h : sp__law_cut K vs H Q E) : vs.length = (["_law_disk", "_law_lot", "_law_kept_here"] : List Str).length := by
  unfold sp__law_cut at h
  repeat (first | (obtain ⟨e, _⟩ := h; rw [e]; done) | (obtain ⟨e, _⟩ := h; rw [e]; rfl; done) | obtain ⟨_, h⟩ := h)
theorem pure__law_cut {K : PySem.W.Frag} (pf : PF K) {vs : List V} {H : Hp} {Q : VK} {E : XK} (h : sp__law_cut K vs H Q E) : t__law_cut K { nx := fun _ H' => Q .non H', rt := Q } (start ["_law_disk", "_law_lot", "_law_kept_here", "_law_found", "_law_room", "_law_number_here"] vs) H := by
  obtain ⟨L, s, lot, ka, ks, rfl, h, ok, hl, hk, hrg, hkf, q⟩ := h
  refine ⟨_, rfl, _, rfl, L, s, lot, rfl, h, ok, hl, fun p H1 hp s1 e1 => ?_⟩
  have W0 := ((Wd.start1 (ownC L s) H h).see (i := 0) rfl (cell L.o (.dK (ownKV L))) h.ob (fun b hb => by
    rw [show b = L.o by simpa [cell] using hb]
    simp [ownC, OL.foot])).told hp s1 e1
  have hk1 := lotAt_same hk s1
  have nka : ka ≠ p := fun z => by
    obtain ⟨ts, e, _⟩ := hk
    rw [z, hp] at e
    cases e
  refine ⟨_, rfl, ka, rfl, (by obtain ⟨ts, e, _⟩ := hk1; exact ⟨_, SqL.of e⟩), ?_⟩
  refine putW (i1 := 4) (i2 := 5) (i3 := 3) (j := 0) W0 rfl hk1 nka (fun pr hpr => ?_) (fun x y => ⟨rfl, rfl, rfl, fun u v => rfl⟩) ⟨_, _, rfl⟩ ?_
  · rw [Dsk.with_len]
    exact hrg pr hpr
  rintro σ' H2 W2 _ ⟨x, y, rfl⟩
  refine ⟨_, rfl, of_decide_eq_true rfl, fun a ha => ⟨of_decide_eq_true rfl, fun o ho => ⟨of_decide_eq_true rfl, fun t ht => ?_⟩⟩⟩
  have W3 := ((W2.one ha).one ho).one (o := .tup [.ref p, .ref o]) ht
  refine ⟨t, _, rfl, SqT.of upd_same, rfl, _, _, rfl, _, rfl, L.o, _, rfl, DPut.k (k := .inr "sure") (W3.get (i := 4) rfl) (of_decide_eq_true rfl), ?_⟩
  have W4 := W3.put (i := 4) (o' := .dK (putK (ownKV L) (.inr "sure") (.ref p))) rfl (by intro xs z; cases z)
  refine ⟨_, _, rfl, _, rfl, L.o, _, rfl, DPut.k (k := .inr "lots") (W4.get (i := 4) rfl) (of_decide_eq_true rfl), ?_⟩
  have W5 := W4.put (i := 4) (o' := .dK (putK (putK (ownKV L) (.inr "sure") (.ref p)) (.inr "lots") (.ref o))) rfl (by intro xs z; cases z)
  refine ⟨rfl, _, rfl, q ⟨L.o, p, o, [a]⟩ _ ⟨W5.get (i := 4) rfl, W5.get (i := 3) rfl, W5.get (i := 1) rfl, .one ⟨[], W5.get (i := 2) rfl, .nil⟩, ?_⟩ rfl (W5.st.sub fun b hb => .inl ?_)⟩
  · have := W5.nd
    simp [feet, cell] at this ⊢
    grind
  · simp [feet, cell, OL.foot] at hb ⊢
    grind
theorem rising_app {ks : List (Int × Int)} {p : Int × Int} (h : ks.Pairwise fun a b => a.1 < b.1) (k : ∀ q ∈ ks, q.1 < p.1) : (ks ++ [p]).Pairwise fun a b => a.1 < b.1 := by
  rw [List.pairwise_append]
  exact ⟨h, by simp, fun q hq r hr => by rw [List.mem_singleton] at hr; exact hr ▸ k q hq⟩
def sp__law_kept (K : PySem.W.Frag) : Sp := fun vs H Q _ => ∃ (st a : Addr) (ns : List Int) (b n : Nat) (L : OL) (s : Dsk), vs = [.ref st, .ref L.o] ∧ DrawAt H st a b n ∧ ScrSt K H st a ns ∧ OwnAt H L s ∧ s.Ok ∧ st ∉ L.foot ∧
  ∀ (t ka : Addr) (lot : Nat) (ks w : List (Int × Int)) (n' : Nat) (H' : Hp), s.lots[lot]? = some w → (∀ p ∈ ks, p ∈ w) → (∀ p ∈ ks, 0 ≤ p.1 ∧ p.1 < s.sure.length) → ks.Pairwise (fun a b => a.1 < b.1) → fnk w s.sure.length ks (-1) 0 = none →
    Kp (fun b => b = st) H H' → (∀ b xs, H b = some (.tup xs) → H' b = some (.tup xs)) → DrawAt H' st a b n' → H ka = none → LotAt H' ka ks → H' t = some (.tup [.int (lot : Nat), .ref ka]) → Q (.ref t) H'
def t__law_kept (K : PySem.W.Frag) : TS := (tSeq (tAsg (tCall (sp__law_next K) [] E0 (tCons (tVar 0) (tCons (tCB (xLen K) (tCons (tDGet (tVar 1) (tC (.str "lots"))) tNil)) tNil))) (gName 2))
    (tSeq (tAsg (tLst tNil) (gName 3))
    (tSeq (tFor (iRng1 (tCons (tCB (xLen K) (tCons (tDGet (tVar 1) (tC (.str "sure"))) tNil)) tNil)) (gName 4) (tSeq (tAsg (tLc (iList K (tOp (rIxL K) (tDGet (tVar 1) (tC (.str "lots"))) (tVar 2))) (gTup K 2 (gCons (gName 6) (gCons (gName 7) gNil))) (tTest (tOp rEq (tVar 6) (tVar 4))) (tVar 7) [6, 7]) (gName 5))
    (tIfS (tAnd (tTest (tOp (rNeE K) (tVar 5) (tLst tNil))) (tTest (tOp xGt (tCall (sp__law_next K) [] E0 (tCons (tVar 0) (tCons (tC (.int 3)) tNil))) (tC (.int 0))))) (tDrop (tBM K "list" rAppend (tVar 3) (tCons (tTup (tCons (tVar 4) (tCons (tOp (rIxL K) (tVar 5) (tCall (sp__law_next K) [] E0 (tCons (tVar 0) (tCons (tCB (xLen K) (tCons (tVar 5) tNil)) tNil)))) tNil))) tNil))) tNext)))
    (tRet (tTup (tCons (tVar 2) (tCons (tVar 3) tNil)))))))
theorem len__law_kept {K : PySem.W.Frag} (vs : List V) (H : Hp) (Q : VK) (E : XK) (h : sp__law_kept K vs H Q E) : vs.length = (["_law_state", "_law_disk"] : List Str).length := by
  unfold sp__law_kept at h
  repeat (first | (obtain ⟨e, _⟩ := h; rw [e]; done) | (obtain ⟨e, _⟩ := h; rw [e]; rfl; done) | obtain ⟨_, h⟩ := h)
theorem pure__law_kept {K : PySem.W.Frag} (pf : PF K) {vs : List V} {H : Hp} {Q : VK} {E : XK} (h : sp__law_kept K vs H Q E) : t__law_kept K { nx := fun _ H' => Q .non H', rt := Q } (start ["_law_state", "_law_disk", "_law_lot", "_law_kept_here", "_law_room", "_law_some", "_law_here", "_law_number_here"] vs) H := by
  obtain ⟨st, a, ns, b, n, L, s, rfl, hst, hs, h, ok, hsf, q⟩ := h
  have stf : ∀ c, c ∈ L.foot → c ∉ [st] := fun c hc z => hsf (by rw [List.mem_singleton] at z; exact z ▸ hc)
  have len := h.lots.len
  have W0 := Wd.start1 (drawC st a b n) H hst
  refine ⟨_, rfl, _, rfl, L.o, _, rfl, h.getL, _, _, rfl, .inl (SqL.of h.lo), st, a, ns, b, n, _, rfl, ?_, hst, hs, fun lo H1 l0 l1 k1 t1 d1 => ?_⟩
  · have := List.length_pos_iff.mpr ok.ne
    rw [List.length_map, len]
    omega
  rw [List.length_map, len] at l1
  obtain ⟨lot, rfl⟩ := Int.eq_ofNat_of_zero_le l0
  have hlt : lot < s.lots.length := by omega
  have hw := List.getElem?_eq_getElem hlt
  generalize s.lots[lot] = w at hw
  have W1 := W0.draw (i := 0) rfl k1 t1 d1
  refine ⟨of_decide_eq_true rfl, fun ka hka => ?_⟩
  have W2 := (W1.one (o := .lst []) hka).see (i := 0) rfl (lotC ka []) ⟨[], upd_same, .nil⟩ fun b hb => hb
  have hkH : H ka = none := kp_none (A := fun _ => False) k1 d1 hka
  have h2 := W2.rd (ownC L s) h stf
  have lsz := ok.size
  refine ⟨_, rfl, L.o, _, rfl, h2.getS, _, _, rfl, .inl (SqL.of h2.ls), _, rfl, by omega, by rw [List.length_map]; omega, ?_⟩
  rw [List.length_map, Int.toNat_natCast]
  refine for_range (fun i σ H3 => ∃ (n' : Nat) (ks : List (Int × Int)), Wd [st] H [lotC ka ks, drawC st a b n'] H3 ∧ (∀ p ∈ ks, p ∈ w ∧ p.1 < i) ∧ ks.Pairwise (fun a b => a.1 < b.1) ∧ ks.length ≤ i ∧ ∃ v4 v5 v6 v7, σ = [some (.ref st), some (.ref L.o), some (.int (lot : Nat)), some (.ref ka), v4, v5, v6, v7])
    ⟨_, _, W2, fun p hp => (by cases hp), .nil, Nat.le_refl _, _, _, _, _, rfl⟩ ?_ ?_
  · rintro i σ H3 hi ⟨n', ks, W3, hks, hpw, hkl, v4, v5, v6, v7, rfl⟩
    rw [show (0 : Int) + (i : Nat) = (i : Nat) by omega]
    have h3 := W3.rd (ownC L s) h stf
    obtain ⟨la, hla, ts, elt, tt⟩ := h3.lots.get2 hw
    have wz := lot_few ok (List.mem_of_getElem? hw)
    refine ⟨_, rfl, L.o, _, rfl, h3.getL, _, rfl, L.lo, _, lot, .ref la, rfl, rfl, SqL.of h3.lo, atI_of ?_, la, rfl, ⟨_, SqL.of elt⟩, ?_⟩
    · rw [List.getElem?_map, hla]
      rfl
    refine comp_pairs (fun p : Int × Int => decide (p.1 = (i : Nat))) (fun p => .int p.2) tt (SqL.of elt) (by omega) ?_ ?_ ?_
    · intro p hp H4 s4 Rb r
      refine ⟨_, rfl, _, rfl, rfl, _, rfl, ?_⟩
      rw [rooms_bl2]
      exact r H4 (Same.refl _)
    · intro p hp H4 s4 R r
      exact ⟨_, rfl, r H4 (Same.refl _)⟩
    intro sm H4 hsm s4 e4
    have W4 := W3.told hsm s4 e4
    have same : ∀ {n2 : Nat} {H5 : Hp} {v5 v6 v7 : Option V}, Wd [st] H [cell sm (.lst ((w.filter fun p : Int × Int => decide (p.1 = (i : Nat))).map fun p : Int × Int => V.int p.2)), lotC ka ks, drawC st a b n2] H5 → ∃ (n' : Nat) (ks : List (Int × Int)), Wd [st] H [lotC ka ks, drawC st a b n'] H5 ∧ (∀ p ∈ ks, p ∈ w ∧ p.1 < (i + 1 : Nat)) ∧ ks.Pairwise (fun a b => a.1 < b.1) ∧ ks.length ≤ i + 1 ∧ ∃ w4 w5 w6 w7, [some (.ref st), some (.ref L.o), some (.int (lot : Nat)), some (.ref ka), some (.int (i : Nat)), v5, v6, v7] = [some (.ref st), some (.ref L.o), some (.int (lot : Nat)), some (.ref ka), w4, w5, w6, w7] :=
      fun W => ⟨_, ks, W.fewer (List.sublist_cons_self _ _), fun p hp => ⟨(hks p hp).1, by have := (hks p hp).2; omega⟩, hpw, by omega, _, _, _, _, rfl⟩
    refine ⟨_, rfl, of_decide_eq_true rfl, fun c hc => ⟨sm, c, _, rfl, rfl, SqL.of (same_upd hc _ _ e4), SqL.of upd_same, _, rfl, ?_⟩⟩
    have W5 := W4.same (same_upd (o := .lst []) hc)
    generalize hF : (w.filter fun p : Int × Int => decide (p.1 = (i : Nat))) = F at W4 W5 same e4 ⊢
    cases F with
    | nil => exact iteN rfl (iteN rfl (same W5))
    | cons x xs =>
      refine iteY rfl ?_
      have sc5 : ScrSt K _ st a ns := hs.kp (fun c o e n => W5.st.kp c o e (by simpa using n))
      refine ⟨_, rfl, st, a, ns, b, n', 3, rfl, by decide, W5.get (i := 2) rfl, sc5, fun r H6 r0 r1 k6 t6 d6 => ⟨_, _, rfl, rfl, _, rfl, ?_⟩⟩
      have W6 := W5.draw (i := 2) rfl k6 t6 d6
      by_cases hr : 0 < r
      · refine iteY (decide_eq_true hr) ?_
        have sc6 : ScrSt K _ st a ns := hs.kp (fun c o e n => W6.st.kp c o e (by simpa using n))
        have e6 : H6 sm = _ := W6.get (i := 0) rfl
        obtain ⟨tk, ek, ak⟩ := W6.get (i := 1) rfl
        refine ⟨_, rfl, .inl ⟨rfl, _, SqL.of ek⟩, _, rfl, _, rfl, _, rfl, _, rfl, sm, _, rfl, .inl (SqL.of e6), st, a, ns, b, n' + 1, _, rfl, by simp, W6.get (i := 2) rfl, sc6, fun y H7 y0 y1 k7 t7 d7 => ?_⟩
        have W7 := W6.draw (i := 2) rfl k7 t7 d7
        rw [List.length_map] at y1
        obtain ⟨m, rfl⟩ := Int.eq_ofNat_of_zero_le y0
        have hm : m < (x :: xs).length := by omega
        have hx := List.getElem?_eq_getElem hm
        generalize hpv : (x :: xs)[m] = pv at hx
        have hpm : pv ∈ w ∧ pv.1 = (i : Nat) := by
          have := List.mem_of_getElem? hx
          rw [← hF, List.mem_filter] at this
          exact ⟨this.1, of_decide_eq_true this.2⟩
        refine ⟨sm, _, (m : Nat), .int pv.2, rfl, rfl, SqL.of (W7.get (i := 0) rfl), atI_of ?_, of_decide_eq_true rfl, fun t ht => ?_⟩
        · rw [List.getElem?_map, hx]
          rfl
        have W8 := W7.same (same_upd (o := .tup [.int (i : Nat), .int pv.2]) ht)
        obtain ⟨tk8, ek8, ak8⟩ := W8.get (i := 1) rfl
        have lk8 : tk8.length = ks.length := ak8.len
        refine ⟨ka, _, .ref t, rfl, rfl, ek8, sz_lt (by rw [List.length_map]; omega), ?_⟩
        have ttp : TupAt (upd H7 t (.tup [.int (i : Nat), .int pv.2])) t ((i : Nat), pv.2) := upd_same
        have W9 := W8.pushLot (i := 1) rfl ek8 ak8 ttp
        refine ⟨_, _, W9.fewer (List.sublist_cons_self _ _), ?_, ?_, ?_, _, _, _, _, rfl⟩
        · intro p hp
          rcases List.mem_append.mp hp with z | z
          · exact ⟨(hks p z).1, by have := (hks p z).2; omega⟩
          · rw [List.mem_singleton] at z
            subst z
            refine ⟨?_, by dsimp only; omega⟩
            rw [← hpm.2]
            exact hpm.1
        · exact rising_app hpw fun p hp => (hks p hp).2
        · rw [List.length_append, List.length_singleton]
          omega
      · exact iteN (decide_eq_false hr) (same W6)
  · rintro σ H3 ⟨n', ks, W3, hks, hpw, hkl, v4, v5, v6, v7, rfl⟩
    refine ⟨_, rfl, _, rfl, of_decide_eq_true rfl, fun t ht => ?_⟩
    have W4 := W3.same (same_upd (o := .tup [.int (lot : Nat), .ref ka]) ht)
    have inr : ∀ p ∈ ks, 0 ≤ p.1 ∧ p.1 < s.sure.length := fun p hp => ok.rooms w (List.mem_of_getElem? hw) p (hks p hp).1
    refine q t ka lot ks w n' _ hw (fun p hp => (hks p hp).1) inr hpw ?_ (fun c o e n => W4.st.kp c o e (by simpa using n)) W4.st.tp (W4.get (i := 1) rfl) hkH (W4.get (i := 0) rfl) upd_same
    refine fnk_ok (fun p hp => ⟨(inr p hp).1, by have := (inr p hp).2; omega, (hks p hp).1⟩) (fun p hp => by have := (inr p hp).1; omega) hpw
/-- the parts of an own disk are one -/
theorem Wd.ownNew {A0 : List Addr} {H0 H : Hp} {Γ : List Ck} {L : OL} {s : Dsk} (W : Wd A0 H0 (cell L.o (.dK (ownKV L)) :: lotsC L.lo L.lots s.lots :: intsC L.ls s.sure :: Γ) H) : Wd A0 H0 (ownC L s :: Γ) H := by
  have h0 : H L.o = some (.dK (ownKV L)) := W.get (i := 0) rfl
  obtain ⟨h1, h2, h3⟩ := W.get (i := 1) rfl
  have h4 : H L.ls = some (.lst (s.sure.map V.int)) := W.get (i := 2) rfl
  have nd := W.nd
  have ef : (feet (cell L.o (.dK (ownKV L)) :: lotsC L.lo L.lots s.lots :: intsC L.ls s.sure :: Γ)).Perm (feet (ownC L s :: Γ)) := by
    simp only [feet_cons]
    show ([L.o] ++ ((L.lo :: L.lots) ++ ([L.ls] ++ feet Γ))).Perm ((L.o :: L.ls :: L.lo :: L.lots) ++ feet Γ)
    refine List.Perm.cons _ ?_
    show ((L.lo :: L.lots) ++ (L.ls :: feet Γ)).Perm (L.ls :: ((L.lo :: L.lots) ++ feet Γ))
    exact List.perm_middle
  have nd2 := (ef.nodup_iff).mp nd
  refine ⟨fun c hc => ?_, nd2, W.st.sub fun b hb => .inl (ef.mem_iff.mpr hb)⟩
  rcases List.mem_cons.mp hc with rfl | hc
  · refine ⟨h0, h4, h1, h2, ?_⟩
    rw [feet_cons, List.nodup_append] at nd2
    exact nd2.1
  · exact W.all c (by simp [hc])
end SY

/-! ## Prog, part Y: a room's writes and the barriers between them, from the disk's lots over the queue to the frames -/
namespace SY
open PySem PySem.Spec PyProof.Rows L2 XB
def selE (r : Int) (l : List (Int × Int)) : List (Option Int) := l.flatMap fun p => if p.1 = r then [some p.2] else []
def lotsE (r : Int) : List (List (Int × Int)) → List (Option Int)
  | [] => []
  | [l] => selE r l
  | l :: l2 :: ls => selE r l ++ none :: lotsE r (l2 :: ls)
def wE (r : Int) (w : Option (Int × Int)) : List (Option Int) := match w with
  | none => [none]
  | some p => if p.1 = r then [some p.2] else []
def rowE (r : Int) (row : List Rq) : List (Option Int) := row.flatMap fun q => wE r q.w
def frE (r : Int) (f : Fra) : List (Option Int) := if f.dirty = true ∧ f.room = r then [some f.num] else []
def frsE (r : Int) (frs : List Fra) : List (Option Int) := frs.flatMap (frE r)
def Sto.evA (s : Sto) (r : Int) : List (Option Int) := lotsE r s.d.lots ++ rowE r s.q.row
def Sto.ev (s : Sto) (r : Int) : List (Option Int) := s.evA r ++ frsE r s.frs
theorem selE_app (r : Int) (l m : List (Int × Int)) : selE r (l ++ m) = selE r l ++ selE r m := by simp [selE]
theorem lotsE_write (r : Int) (p : Int × Int) : ∀ {ls : List (List (Int × Int))}, ls ≠ [] → lotsE r (addLast ls p) = lotsE r ls ++ wE r (some p)
  | [], h => absurd rfl h
  | [l], _ => by
    show selE r (l ++ [p]) = _
    rw [selE_app]
    simp [selE, lotsE, wE]
  | l :: l2 :: ls, _ => by
    have ih := lotsE_write r p (ls := l2 :: ls) (by simp)
    have e : addLast (l :: l2 :: ls) p = l :: addLast (l2 :: ls) p := by
      unfold addLast
      simp
    have hne : ∃ m ms, addLast (l2 :: ls) p = m :: ms := by
      cases h : addLast (l2 :: ls) p with
      | nil =>
        have := (addLast_flat (l2 :: ls) p (by simp)).2
        rw [h] at this
        simp at this
      | cons m ms => exact ⟨m, ms, rfl⟩
    obtain ⟨m, ms, hm⟩ := hne
    rw [e, hm, lotsE, ← hm, ih, lotsE]
    simp
theorem lotsE_barrier (r : Int) : ∀ {ls : List (List (Int × Int))}, ls ≠ [] → lotsE r (ls ++ [[]]) = lotsE r ls ++ [none]
  | [], h => absurd rfl h
  | [l], _ => by simp [lotsE, selE]
  | l :: l2 :: ls, _ => by
    have ih := lotsE_barrier r (ls := l2 :: ls) (by simp)
    rw [List.cons_append, List.cons_append, lotsE, ← List.cons_append, ih, lotsE]
    simp
theorem frsE_own (r : Int) : ∀ frs : List Fra, frsE r frs = (frs.filter fun f => decide (f.room = r)).flatMap (frE r)
  | [] => rfl
  | f :: frs => by
    have ih := frsE_own r frs
    unfold frsE at ih ⊢
    rw [List.flatMap_cons, ih]
    by_cases e : f.room = r
    · rw [List.filter_cons_of_pos (by simpa using e), List.flatMap_cons]
    · rw [List.filter_cons_of_neg (by simpa using e)]
      simp [frE, e]
theorem frsE_at {frs : List Fra} (nd : (frs.map (·.room)).Nodup) {f : Fra} (h : f ∈ frs) : frsE f.room frs = if f.dirty = true then [some f.num] else [] := by
  rw [frsE_own, own_filter frs nd h]
  simp [frE]
theorem frsE_no {r : Int} {frs : List Fra} (h : ∀ f ∈ frs, f.room = r → f.dirty = false) : frsE r frs = [] := by
  unfold frsE
  rw [List.flatMap_eq_nil_iff]
  intro f hf
  unfold frE
  split
  · rename_i z
    rw [h f hf z.2] at z
    exact absurd z.1 (by simp)
  · rfl
theorem filter_set {α : Type} {p : α → Bool} : ∀ {xs : List α} {i : Nat} {x y : α}, xs[i]? = some x → p x = false → p y = false → (xs.set i y).filter p = xs.filter p
  | [], _, _, _, h, _, _ => by simp at h
  | z :: xs, 0, x, y, h, hx, hy => by
    simp at h
    subst h
    simp [hx, hy]
  | z :: xs, i + 1, x, y, h, hx, hy => by
    have ih := filter_set (xs := xs) (i := i) (by simpa using h) hx hy
    rw [List.set_cons_succ, List.filter_cons, List.filter_cons, ih]
theorem rowE_app (r : Int) (a b : List Rq) : rowE r (a ++ b) = rowE r a ++ rowE r b := by simp [rowE]
theorem rowE_put (r : Int) (q : Que) (w : Option (Int × Int)) : rowE r (q.put1 w).row = rowE r q.row ++ wE r w := by
  unfold Que.put1
  rw [rowE_app]
  simp [rowE]
theorem clean_ev {s : Sto} (h : s.Tr) {i : Nat} {f : Fra} (hf : s.frs[i]? = some f) (hd : f.dirty = true) (r : Int) : (s.clean i).ev r = s.ev r := by
  have nd2 := (clean_tr h i).1.nd
  have hm := List.mem_of_getElem? hf
  unfold Sto.ev Sto.evA
  rw [clean_eq hf] at nd2 ⊢
  dsimp only at nd2 ⊢
  rw [rowE_put]
  by_cases e : f.room = r
  · subst e
    have hw : f.wash ∈ s.frs.set i f.wash := List.mem_of_getElem? (i := i) (by rw [List.getElem?_set_self (List.getElem?_eq_some_iff.mp hf).1])
    have e1 := frsE_at nd2 hw
    rw [show f.wash.room = f.room from rfl, show f.wash.dirty = false from rfl] at e1
    rw [e1, frsE_at h.nd hm, hd]
    simp [wE]
  · rw [frsE_own r (s.frs.set i f.wash), filter_set hf (decide_eq_false e) (decide_eq_false (show ¬ f.wash.room = r from e)), ← frsE_own]
    simp [wE, e]
theorem filter_two {frs : List Fra} {room r : Int} (n : r ≠ room) : (frs.filter fun f => !decide (f.room = room)).filter (fun f => decide (f.room = r)) = frs.filter fun f => decide (f.room = r) := by
  rw [List.filter_filter]
  refine List.filter_congr fun f _ => ?_
  by_cases e : f.room = r
  · simp [e, n]
  · simp [e]
theorem drop_ev {s : Sto} {room : Int} (hc : ∀ f ∈ s.frs, f.room = room → f.dirty = false) (r : Int) : ({ s with frs := s.others room } : Sto).ev r = s.ev r := by
  unfold Sto.ev Sto.evA
  dsimp only
  congr 1
  by_cases e : r = room
  · subst e
    rw [frsE_no hc, frsE_no]
    intro f hf
    exact fun z => absurd z (others_mem.mp hf).2
  · rw [frsE_own r (s.others room), frsE_own r s.frs]
    unfold Sto.others
    rw [filter_two e]
theorem leave_ev {s : Sto} (h : s.Tr) (r : Int) : s.leave.ev r = s.ev r := by
  unfold Sto.leave
  split
  · rename_i c cs hc
    have hm : c ∈ s.frs.filter fun f => !f.dirty := by rw [hc]; simp
    rw [List.mem_filter] at hm
    refine drop_ev (fun f hf e => ?_) r
    have h1 := own_mem h.nd hm.1
    have h2 := own_mem h.nd hf
    rw [e, h1] at h2
    rw [← (List.cons.inj h2).1]
    simpa using hm.2
  · rename_i hn
    split
    · rfl
    · rename_i f fs hf
      have h0 : s.frs[0]? = some f := by rw [hf]; rfl
      have hd : f.dirty = true := by
        have := List.filter_eq_nil_iff.mp hn f (by rw [hf]; simp)
        simpa using this
      have ht := clean_tr h 0
      rw [← clean_ev h h0 hd r]
      refine drop_ev (s := s.clean 0) (fun g hg e => ?_) r
      have hw : f.wash ∈ (s.clean 0).frs := by
        rw [clean_eq h0]
        exact List.mem_of_getElem? (i := 0) (by rw [List.getElem?_set_self (List.getElem?_eq_some_iff.mp h0).1])
      have h1 := own_mem ht.1.nd hg
      have h2 := own_mem ht.1.nd hw
      rw [show f.wash.room = f.room from rfl, ← e, h1] at h2
      rw [(List.cons.inj h2).1]
      rfl
theorem mid_ev {s : Sto} (h : s.Tr) (room r : Int) : (s.mid room).ev r = s.ev r := by
  unfold Sto.mid
  split
  · split
    · exact leave_ev h r
    · rfl
  · rfl
theorem use_ev {s : Sto} (h : s.Tr) (room r : Int) : (s.use room).ev r = s.ev r := by
  cases ho : (s.own room).isEmpty with
  | false =>
    rw [(use_own ho).1]
    unfold Sto.ev Sto.evA
    dsimp only
    congr 1
    rw [frsE_own, frsE_own r s.frs, List.filter_append]
    unfold Sto.others Sto.own
    by_cases e : r = room
    · subst e
      have e1 : (s.frs.filter fun f => !decide (f.room = r)).filter (fun f => decide (f.room = r)) = [] := by
        rw [List.filter_eq_nil_iff]
        intro f hf
        have := (List.mem_filter.mp hf).2
        simpa using this
      rw [e1, List.nil_append, List.filter_filter]
      simp
    · have e1 : (s.frs.filter fun f => decide (f.room = room)).filter (fun f => decide (f.room = r)) = [] := by
        rw [List.filter_eq_nil_iff]
        intro f hf
        have := (List.mem_filter.mp hf).2
        have q : f.room = room := by simpa using this
        simp [q, Ne.symm e]
      rw [filter_two e, e1, List.append_nil]
  | true =>
    rw [(use_new ho).1, ← mid_ev h room r]
    have hn : s.own room = [] := List.isEmpty_iff.mp ho
    rw [← drop_ev (s := s.mid room) (room := room) (fun f hf e => by
      obtain ⟨g, hg, eg⟩ := mid_rooms hf
      exact absurd (eg.symm.trans e) (own_none hn g hg)) r]
    unfold Sto.ev Sto.evA
    dsimp only
    congr 1
    simp [frsE, frE]
/-- a write: the room's last one, if it still stands in a frame, gives way -/
theorem marked_ev {s : Sto} (h : s.Tr) (room num : Int) : (∃ A t, s.ev room = A ++ t ∧ (t = [] ∨ ∃ o, t = [some o]) ∧ (s.marked room num).ev room = A ++ [some num]) ∧ ∀ r, r ≠ room → (s.marked room num).ev r = s.ev r := by
  obtain ⟨h1, _, f, hf, rfl⟩ := use_tr h room
  have hm := List.mem_of_getElem? hf
  have ht := (marked_tr h f.room num).1
  have e : s.marked f.room num = { s.use f.room with frs := (s.use f.room).frs.set (s.useIx f.room) ⟨f.room, num, true⟩ } := by
    unfold Sto.marked Sto.mark
    rw [hf]
  refine ⟨⟨(s.use f.room).evA f.room, frsE f.room (s.use f.room).frs, (use_ev h f.room f.room).symm, ?_, ?_⟩, fun r hr => ?_⟩
  · rw [frsE_at h1.nd hm]
    split
    · exact .inr ⟨_, rfl⟩
    · exact .inl rfl
  · have hg : (⟨f.room, num, true⟩ : Fra) ∈ (s.marked f.room num).frs := by
      rw [e]
      exact List.mem_of_getElem? (i := s.useIx f.room) (by rw [List.getElem?_set_self (List.getElem?_eq_some_iff.mp hf).1])
    have := frsE_at ht.nd hg
    unfold Sto.ev
    rw [show frsE f.room (s.marked f.room num).frs = _ from this, e]
    rfl
  · rw [← use_ev h f.room r, e]
    unfold Sto.ev Sto.evA
    dsimp only
    congr 1
    rw [frsE_own, frsE_own r (s.use f.room).frs, filter_set hf (by simpa using Ne.symm hr) (by simpa using Ne.symm hr)]
theorem write_ev {s : Sto} (h : s.Tr) (room num : Int) : (∃ A t, s.ev room = A ++ t ∧ (t = [] ∨ ∃ o, t = [some o]) ∧ (s.write room num).ev room = A ++ [some num]) ∧ ∀ r, r ≠ room → (s.write room num).ev r = s.ev r := by
  have hm := marked_ev h room num
  have ht := (marked_tr h room num).1
  unfold Sto.write
  split
  · rename_i hc
    have hx : ∃ f, (s.marked room num).frs[(s.marked room num).frs.findIdx (·.dirty)]? = some f ∧ f.dirty = true ∨ ∀ g ∈ (s.marked room num).frs, g.dirty = false := by
      by_cases z : ∃ g ∈ (s.marked room num).frs, g.dirty = true
      · have := List.findIdx_lt_length_of_exists (p := (·.dirty)) (xs := (s.marked room num).frs) z
        exact ⟨_, .inl ⟨List.getElem?_eq_getElem this, List.findIdx_getElem (w := this)⟩⟩
      · exact ⟨⟨0, 0, false⟩, .inr fun g hg => by
          cases hd : g.dirty with
          | false => rfl
          | true => exact absurd ⟨g, hg, hd⟩ z⟩
    have key : ∀ r, ((s.marked room num).clean ((s.marked room num).frs.findIdx (·.dirty))).ev r = (s.marked room num).ev r := by
      intro r
      obtain ⟨f, hx | hx⟩ := hx
      · exact clean_ev ht hx.1 hx.2 r
      · have : (s.marked room num).frs.findIdx (·.dirty) = (s.marked room num).frs.length := List.findIdx_eq_length.mpr fun g hg => by simpa using hx g hg
        rw [this]
        unfold Sto.clean
        rw [List.getElem?_eq_none (Nat.le_refl _)]
    exact ⟨by rw [key]; exact hm.1, fun r hr => (key r).trans (hm.2 r hr)⟩
  · exact hm
theorem wash1_ev {s : Sto} (h : s.Tr) (i : Nat) (r : Int) : (s.wash1 i).ev r = s.ev r := by
  unfold Sto.wash1
  split
  · rfl
  · rename_i f hf
    split
    · rename_i hd
      exact clean_ev h hf hd r
    · rfl
theorem washed_ev : ∀ (l : List Nat) {s : Sto}, s.Tr → ∀ r, (l.foldl Sto.wash1 s).ev r = s.ev r
  | [], s, h, r => rfl
  | i :: l, s, h, r => by
    rw [List.foldl_cons, washed_ev l (wash1_tr h i).1 r, wash1_ev h i r]
theorem order_ev {s : Sto} (h : s.Tr) (r : Int) : s.order.ev r = s.ev r ++ [none] := by
  have e1 := washed_ev s.turns h r
  have e2 : frsE r s.order.frs = [] := frsE_no fun f hf _ => order_clean hf
  have e3 : frsE r s.washed.frs = [] := e2
  have e4 : s.order.evA r = s.washed.evA r ++ [none] := by
    unfold Sto.evA Sto.order
    dsimp only
    rw [rowE_put]
    simp [wE]
  unfold Sto.ev at e1 ⊢
  rw [show frsE r (s.turns.foldl Sto.wash1 s).frs = [] from e3, List.append_nil] at e1
  rw [e2, List.append_nil, e4, ← e1]
  rfl
/-- what is served is the first, or a write among those that no barrier stands ahead of -/
theorem pick_free (q : Que) : q.pick = 0 ∨ q.pick < q.fr := by
  unfold Que.pick
  split
  · exact .inl rfl
  · split
    · exact .inl rfl
    · split
      · exact .inl rfl
      · rename_i h
        right
        have := argBest_le (fun i j => kLt (q.key i) (q.key j)) (q.fr - 1)
        omega
theorem serve_ev {s : Sto} {B : Nat} (ok : s.Ok B) (hne : s.q.row ≠ []) (r : Int) : s.serve.ev r = s.ev r := by
  obtain ⟨x, hx, e, _⟩ := serve_eq hne
  have hlt := (List.getElem?_eq_some_iff.mp hx).1
  have erow : s.q.row = s.q.row.take s.q.pick ++ x :: s.q.row.drop (s.q.pick + 1) := by
    conv => lhs; rw [← List.take_append_drop s.q.pick s.q.row]
    rw [← List.getElem_cons_drop hlt, (List.getElem?_eq_some_iff.mp hx).2]
  have einc : ∀ l : List Rq, rowE r (l.map fun o => { o with seen := o.seen + 1 }) = rowE r l := fun l => by
    induction l with
    | nil => rfl
    | cons o l ih =>
      unfold rowE at ih ⊢
      rw [List.map_cons, List.flatMap_cons, List.flatMap_cons, ih]
  have esv : rowE r (s.q.served x).row = rowE r (s.q.row.take s.q.pick) ++ rowE r (s.q.row.drop (s.q.pick + 1)) := by
    unfold Que.served
    dsimp only
    rw [einc, filter_split ok.inc hx, rowE_app]
  rw [e]
  unfold Sto.ev Sto.evA
  dsimp only
  congr 1
  rw [esv]
  conv => rhs; rw [erow, rowE_app]
  have ecs : rowE r (x :: s.q.row.drop (s.q.pick + 1)) = wE r x.w ++ rowE r (s.q.row.drop (s.q.pick + 1)) := by
    unfold rowE
    rw [List.flatMap_cons]
  rw [ecs]
  have ed : lotsE r (s.d.take x).lots = lotsE r s.d.lots ++ wE r x.w := by
    unfold Dsk.take
    cases hw : x.w with
    | none => exact lotsE_barrier r ok.ne
    | some p => exact lotsE_write r (p.1, p.2) ok.ne
  rw [ed]
  have hcomm : wE r x.w ++ rowE r (s.q.row.take s.q.pick) = rowE r (s.q.row.take s.q.pick) ++ wE r x.w := by
    rcases pick_free s.q with h0 | hf
    · rw [h0]
      simp [rowE]
    · obtain ⟨c, p, sn, hj⟩ := fr_write hf
      rw [hx] at hj
      cases hj
      by_cases e : p.1 = r
      · have h0 : rowE r (s.q.row.take s.q.pick) = [] := by
          unfold rowE
          rw [List.flatMap_eq_nil_iff]
          intro o ho
          obtain ⟨j, hj⟩ := List.getElem?_of_mem ho
          have hjl := (List.getElem?_eq_some_iff.mp hj).1
          rw [List.length_take] at hjl
          rw [List.getElem?_take_of_lt (by omega)] at hj
          have n1 := pick_first (room := p.1) (num := p.2) ok.inc hx rfl j (by omega) o hj
          obtain ⟨c2, p2, sn2, hj2⟩ := fr_write (q := s.q) (i := j) (by omega)
          rw [hj] at hj2
          cases hj2
          unfold wE
          dsimp only
          rw [if_neg]
          intro z
          exact n1 (by simp [roomV, z, e])
        rw [h0]
        simp
      · simp [wE, e]
  rw [List.append_assoc, ← List.append_assoc (wE r x.w), hcomm]
  simp
theorem drain_ev : ∀ (n : Nat) {s : Sto} {B : Nat}, s.Ok B → n ≤ s.q.row.length → ∀ r, (drain n s).ev r = s.ev r
  | 0, s, B, _, _, r => rfl
  | n + 1, s, B, ok, hn, r => by
    have hne : s.q.row ≠ [] := fun z => by
      rw [z] at hn
      simp at hn
    obtain ⟨o1, l1⟩ := serve_ok ok hne
    rw [drain, drain_ev n o1 (by omega) r, serve_ev ok hne r]
theorem sync_ev {s : Sto} {B : Nat} (h : s.Tr) (ok : s.Ok B) (r : Int) : s.sync.ev r = [] := by
  obtain ⟨h2, v2, f2⟩ := drain_tr _ (order_tr h).1 (order_ok ok) (Nat.le_refl _)
  have e1 : frsE r s.sync.frs = [] := frsE_no fun f hf _ => order_clean (by rw [← f2]; exact hf)
  have e2 : s.sync.q.row = [] := (drained_ok (order_ok ok)).2
  unfold Sto.ev Sto.evA
  rw [e1, e2]
  rfl
/-! ### values along the events -/
/-- behind the first m parts -/
def preE : Nat → Int → List (Option Int) → Int
  | 0, v, _ => v
  | _ + 1, v, [] => v
  | m + 1, _, some x :: t => preE (m + 1) x t
  | m + 1, v, none :: t => preE m v t
def nonesE : List (Option Int) → Nat
  | [] => 0
  | none :: t => nonesE t + 1
  | some _ :: t => nonesE t
def AscE : Int → List (Option Int) → Prop
  | _, [] => True
  | v, none :: t => AscE v t
  | v, some x :: t => v ≤ x ∧ AscE x t
def atE : Nat → List (Option Int) → List (Nat × Int)
  | _, [] => []
  | e, none :: t => atE (e + 1) t
  | e, some x :: t => (e, x) :: atE e t
theorem preE_none (v : Int) : ∀ (A : List (Option Int)) (m : Nat) (v : Int), preE m v (A ++ [none]) = preE m v A
  | [], 0, v => rfl
  | [], 1, v => rfl
  | [], m + 2, v => rfl
  | none :: A, 0, v => rfl
  | none :: A, m + 1, v => by simp only [List.cons_append, preE, preE_none v A]
  | some x :: A, 0, v => rfl
  | some x :: A, m + 1, v => by simp only [List.cons_append, preE, preE_none v A]
theorem nonesE_app : ∀ A B : List (Option Int), nonesE (A ++ B) = nonesE A + nonesE B
  | [], B => by simp [nonesE]
  | none :: A, B => by simp only [List.cons_append, nonesE, nonesE_app A B]; omega
  | some x :: A, B => by simp only [List.cons_append, nonesE, nonesE_app A B]
theorem atE_app : ∀ (A B : List (Option Int)) (e : Nat), atE e (A ++ B) = atE e A ++ atE (e + nonesE A) B
  | [], B, e => by simp [atE, nonesE]
  | none :: A, B, e => by
    simp only [List.cons_append, atE, nonesE, atE_app A B]
    rw [show e + 1 + nonesE A = e + (nonesE A + 1) by omega]
  | some x :: A, B, e => by simp only [List.cons_append, atE, nonesE, atE_app A B]
theorem AscE_app : ∀ {A B : List (Option Int)} {v : Int}, AscE v (A ++ B) → AscE v A
  | [], _, _, _ => trivial
  | none :: A, B, v, h => AscE_app (A := A) h
  | some x :: A, B, v, h => ⟨h.1, AscE_app (A := A) h.2⟩
theorem AscE_end : ∀ {A : List (Option Int)} {v n : Int} {e : Nat}, AscE v A → v ≤ n → (∀ p ∈ atE e A, p.2 ≤ n) → AscE v (A ++ [some n])
  | [], v, n, e, _, hv, _ => ⟨hv, trivial⟩
  | none :: A, v, n, e, h, hv, ha => AscE_end (A := A) (e := e + 1) h hv ha
  | some x :: A, v, n, e, h, hv, ha => ⟨h.1, AscE_end (A := A) (e := e) h.2 (ha (e, x) (by simp [atE])) fun p hp => ha p (by simp [atE, hp])⟩
theorem AscE_none : ∀ {A : List (Option Int)} {v : Int}, AscE v A → AscE v (A ++ [none])
  | [], _, _ => trivial
  | none :: A, v, h => AscE_none (A := A) h
  | some x :: A, v, h => ⟨h.1, AscE_none (A := A) h.2⟩
theorem preE_ge : ∀ {A : List (Option Int)} {v : Int} (m : Nat), AscE v A → v ≤ preE m v A
  | _, v, 0, _ => by simp [preE]
  | [], v, m + 1, _ => by simp [preE]
  | none :: A, v, m + 1, h => preE_ge (A := A) m h
  | some x :: A, v, m + 1, h => Int.le_trans h.1 (preE_ge (A := A) (m + 1) h.2)
theorem preE_mono : ∀ {A : List (Option Int)} {v : Int} {m n : Nat}, AscE v A → m ≤ n → preE m v A ≤ preE n v A
  | A, v, 0, n, h, _ => by
    rw [show preE 0 v A = v from by cases A <;> rfl]
    exact preE_ge n h
  | [], v, m + 1, n + 1, _, _ => by simp [preE]
  | none :: A, v, m + 1, n + 1, h, hm => preE_mono (A := A) (m := m) (n := n) h (by omega)
  | some x :: A, v, m + 1, n + 1, h, hm => preE_mono (A := A) (m := m + 1) (n := n + 1) h.2 hm
/-- a value that stands in a part is no less than what stood ahead of the part -/
theorem preE_le_at : ∀ {A : List (Option Int)} {v : Int} {e j : Nat} {x : Int} {m : Nat}, AscE v A → (j, x) ∈ atE e A → m + e ≤ j → preE m v A ≤ x
  | [], v, e, j, x, m, _, h, _ => by simp [atE] at h
  | none :: A, v, e, j, x, 0, h, hx, hm => by
    simp only [atE] at hx
    have := preE_le_at (A := A) (v := v) (e := e + 1) (m := 0) h hx (by
      have : ∀ {A : List (Option Int)} {e j : Nat} {x : Int}, (j, x) ∈ atE e A → e ≤ j := by
        intro A
        induction A with
        | nil => intro e j x h; simp [atE] at h
        | cons o A ih =>
          intro e j x h
          cases o with
          | none => simp only [atE] at h; have := ih h; omega
          | some y =>
            simp only [atE, List.mem_cons] at h
            rcases h with h | h
            · cases h; omega
            · exact ih h
      have := this hx
      omega)
    rw [show preE 0 v A = v by cases A <;> rfl] at this
    exact this
  | none :: A, v, e, j, x, m + 1, h, hx, hm => preE_le_at (A := A) (e := e + 1) (m := m) h (by simpa [atE] using hx) (by omega)
  | some y :: A, v, e, j, x, 0, h, hx, hm => by
    simp only [atE, List.mem_cons] at hx
    rcases hx with hx | hx
    · cases hx
      exact h.1
    · have := preE_le_at (A := A) (v := y) (m := 0) h.2 hx (by omega)
      rw [show preE 0 y A = y by cases A <;> rfl] at this
      exact Int.le_trans h.1 this
  | some y :: A, v, e, j, x, m + 1, h, hx, hm => by
    simp only [atE, List.mem_cons] at hx
    rcases hx with hx | hx
    · cases hx
      omega
    · exact preE_le_at (A := A) (e := e) (m := m + 1) h.2 hx hm
/-- what stands behind some parts is the start, or one of their values -/
theorem preE_is : ∀ {A : List (Option Int)} {v : Int} {e m : Nat}, preE m v A = v ∨ ∃ j, j < m + e ∧ (j, preE m v A) ∈ atE e A
  | _, v, e, 0 => .inl (by simp [preE])
  | [], v, e, m + 1 => .inl rfl
  | none :: A, v, e, m + 1 => by
    rcases preE_is (A := A) (v := v) (e := e + 1) (m := m) with h | ⟨j, hj, h⟩
    · exact .inl h
    · exact .inr ⟨j, by omega, h⟩
  | some x :: A, v, e, m + 1 => by
    right
    rcases preE_is (A := A) (v := x) (e := e) (m := m + 1) with h | ⟨j, hj, h⟩
    · refine ⟨e, by omega, ?_⟩
      simp only [preE, atE]
      rw [h]
      simp
    · exact ⟨j, hj, by simp only [preE, atE]; exact List.mem_cons_of_mem _ h⟩
theorem preE_part : ∀ {A B : List (Option Int)} {v : Int} {m : Nat}, m ≤ nonesE A → preE m v (A ++ B) = preE m v A
  | A, B, v, 0, _ => by cases A <;> cases B <;> simp [preE]
  | [], B, v, m + 1, h => by simp [nonesE] at h
  | none :: A, B, v, m + 1, h => by
    simp only [List.cons_append, preE]
    exact preE_part (by simp only [nonesE] at h; omega)
  | some x :: A, B, v, m + 1, h => by
    simp only [List.cons_append, preE]
    exact preE_part (by simpa only [nonesE] using h)
/-- the last value of the last part -/
theorem preE_end : ∀ {A : List (Option Int)} {v n : Int}, preE (nonesE A + 1) v (A ++ [some n]) = n
  | [], v, n => rfl
  | none :: A, v, n => by simp only [List.cons_append, nonesE, preE]; exact preE_end
  | some x :: A, v, n => by simp only [List.cons_append, nonesE, preE]; exact preE_end
/-- the last one gives way to a greater one -/
theorem preE_repl : ∀ {A t : List (Option Int)} {v n : Int} {m e : Nat}, (t = [] ∨ ∃ o, t = [some o]) → v ≤ n → (∀ p ∈ atE e (A ++ t), p.2 ≤ n) → preE m v (A ++ t) ≤ preE m v (A ++ [some n])
  | [], t, v, n, 0, e, _, _, _ => by cases t <;> simp [preE]
  | none :: A, t, v, n, 0, e, _, _, _ => by simp [preE]
  | some x :: A, t, v, n, 0, e, _, _, _ => by simp [preE]
  | [], t, v, n, m + 1, e, ht, hv, ha => by
    rcases ht with rfl | ⟨o, rfl⟩
    · simpa [preE] using hv
    · have := ha (e, o) (by simp [atE])
      simpa [preE] using this
  | none :: A, t, v, n, m + 1, e, ht, hv, ha => by
    simp only [List.cons_append, preE]
    exact preE_repl (e := e + 1) ht hv (by simpa only [List.cons_append, atE] using ha)
  | some x :: A, t, v, n, m + 1, e, ht, hv, ha => by
    simp only [List.cons_append, preE]
    simp only [List.cons_append, atE] at ha
    exact preE_repl (e := e) ht (ha (e, x) (by simp)) fun p hp => ha p (List.mem_cons_of_mem _ hp)
/-! ### the disk's own part -/
theorem nonesE_sel (r : Int) (l : List (Int × Int)) : nonesE (selE r l) = 0 := by
  induction l with
  | nil => rfl
  | cons p l ih =>
    unfold selE at ih ⊢
    rw [List.flatMap_cons, nonesE_app, ih]
    split <;> rfl
theorem nonesE_lots (r : Int) : ∀ ls : List (List (Int × Int)), nonesE (lotsE r ls) = ls.length - 1
  | [] => rfl
  | [l] => nonesE_sel r l
  | l :: l2 :: ls => by
    rw [lotsE, nonesE_app, nonesE_sel]
    simp only [nonesE, nonesE_lots r (l2 :: ls), List.length_cons]
    omega
theorem preE_sel (r : Int) : ∀ (l : List (Int × Int)) (X : List (Option Int)) (m : Nat) (sure : List Int), 0 ≤ r → r < sure.length → (∀ p ∈ l, 0 ≤ p.1 ∧ p.1 < sure.length) → preE (m + 1) ((sure[r.toNat]?).getD 0) (selE r l ++ X) = preE (m + 1) (((l.foldl setP sure)[r.toNat]?).getD 0) X
  | [], X, m, sure, _, _, _ => rfl
  | p :: l, X, m, sure, h0, h1, hp => by
    have ih := preE_sel r l X m (setP sure p) h0 (by rw [setP_len]; exact h1) fun q hq => by rw [setP_len]; exact hp q (List.mem_cons_of_mem _ hq)
    have rp := hp p List.mem_cons_self
    rw [List.foldl_cons, ← ih]
    unfold selE
    rw [List.flatMap_cons, List.append_assoc]
    by_cases e : p.1 = r
    · rw [if_pos e, ← e]
      unfold setP
      rw [List.getElem?_set_self (by omega)]
      rfl
    · rw [if_neg e]
      unfold setP
      rw [List.getElem?_set_ne (by omega)]
      rfl
theorem with_pre (r : Int) : ∀ (ls : List (List (Int × Int))) (m : Nat) (sure : List Int), 0 ≤ r → r < sure.length → (∀ l ∈ ls, ∀ p ∈ l, 0 ≤ p.1 ∧ p.1 < sure.length) → ((((ls.take m).flatten.foldl setP sure)[r.toNat]?).getD 0) = preE m ((sure[r.toNat]?).getD 0) (lotsE r ls)
  | _, 0, sure, _, _, _ => by simp [preE]
  | [], m + 1, sure, _, _, _ => by simp [preE, lotsE]
  | [l], m + 1, sure, h0, h1, hp => by
    have := preE_sel r l [] m sure h0 h1 (hp l (by simp))
    rw [List.append_nil] at this
    rw [lotsE, this]
    simp [preE]
  | l :: l2 :: ls, m + 1, sure, h0, h1, hp => by
    have e1 := preE_sel r l (none :: lotsE r (l2 :: ls)) m sure h0 h1 (hp l (by simp))
    have ih := with_pre r (l2 :: ls) m (l.foldl setP sure) h0 (by rw [foldl_setP_len]; exact h1) fun q hq p hpq => by rw [foldl_setP_len]; exact hp q (List.mem_cons_of_mem _ hq) p hpq
    rw [lotsE, e1]
    simp only [preE]
    rw [← ih, List.take_succ_cons, List.flatten_cons, List.foldl_append]
theorem at_sel {r : Int} {l : List (Int × Int)} {p : Int × Int} (h : p ∈ l) (e : p.1 = r) (k : Nat) : (k, p.2) ∈ atE k (selE r l) := by
  obtain ⟨l1, l2, rfl⟩ := List.append_of_mem h
  rw [selE_app, atE_app]
  refine List.mem_append_right _ ?_
  unfold selE
  rw [List.flatMap_cons, if_pos e]
  simp only [List.cons_append, atE, List.nil_append]
  rw [show nonesE (l1.flatMap fun p => if p.1 = r then [some p.2] else []) = 0 from nonesE_sel r l1]
  simp
theorem at_lots {r : Int} : ∀ {ls : List (List (Int × Int))} {i : Nat} {l : List (Int × Int)} {p : Int × Int} (k : Nat), ls[i]? = some l → p ∈ l → p.1 = r → (k + i, p.2) ∈ atE k (lotsE r ls)
  | [], i, l, p, k, h, _, _ => by simp at h
  | [x], 0, l, p, k, h, hp, e => by
    simp at h
    subst h
    exact at_sel hp e k
  | [x], i + 1, l, p, k, h, _, _ => by simp at h
  | x :: y :: ls, 0, l, p, k, h, hp, e => by
    simp at h
    subst h
    rw [lotsE, atE_app]
    exact List.mem_append_left _ (at_sel hp e k)
  | x :: y :: ls, i + 1, l, p, k, h, hp, e => by
    have := at_lots (r := r) (ls := y :: ls) (i := i) (k + 1) (by simpa using h) hp e
    rw [lotsE, atE_app, nonesE_sel]
    refine List.mem_append_right _ ?_
    simp only [atE]
    rw [show k + (i + 1) = k + 1 + i by omega]
    exact this
theorem order_d (s : Sto) : s.order.d = s.d := by
  show s.washed.d = _
  unfold Sto.washed
  exact (washed_d _ _).1
theorem sync_sure_len {s : Sto} {B : Nat} (ok : s.Ok B) : s.sync.d.sure.length = s.d.sure.length := by
  have := act_rooms s .sync
  exact this
theorem new_okL (mf md pat : Int) {l : List Int} (h1 : 1 ≤ l.length) (h2 : l.length ≤ 40) (hmf : 1 ≤ mf ∧ mf ≤ 8) (hmd : 1 ≤ md ∧ md ≤ mf) : (Sto.new mf md pat ⟨l, [[]], none⟩).Ok 1 := by
  refine ⟨⟨h1, h2⟩, rfl, ?_, by simp [Sto.new], ?_, ?_, List.Pairwise.nil, ?_, hmf, hmd, ?_, Nat.le_refl 1⟩
  · intro lot hl p hp
    simp only [Sto.new, List.mem_singleton] at hl
    subst hl
    cases hp
  · intro f hf
    cases hf
  · intro f hf
    cases hf
  · intro f hf
    cases hf
  · show (0 : Int) ≤ mf
    omega
end SY

/-! ## the law k04 -/
namespace SY
open PySem PySem.Spec PyProof.Rows L2 XB
structure PFZ (K : PySem.W.Frag) : Prop extends PFA K where
  em_TooMany_RoomError : PySem.W.exmOne K (.ref (He.ga K "TooMany")) (.ref (He.ga K "RoomError")) = some true
  kx_TooMany : PySem.W.kitOne K (.ref (He.ga K "TooMany")) (.ref (He.ga K "TooMany")) = some true
  kv_TooMany : PySem.W.kitOne K (.ref (He.ga K "TooMany")) (.type "ValueError") = some true
/-! -/
def dv_Store_init (K : PySem.W.Frag) : List V := [.int 4, .int 2, .int 3]
def dv_Store_idle (K : PySem.W.Frag) : List V := [.int 1]
def kg_Store_frames_dirty (us ws : List V) : List V := (us) ++ ((ws.drop 0).take 1) ++ ((ws.drop 1).take 1) ++ (([V.int 3].drop 0).take 1)
def kg_Store_idle_many (us ws : List V) : List V := (us) ++ ((ws.drop 0).take 1)
def kg_Store_frames_dirty_patience (us ws : List V) : List V := (us) ++ ((ws.drop 0).take 1) ++ ((ws.drop 1).take 1) ++ ((ws.drop 2).take 1)
/-! ### choices, their products and unions -/
def addK {α : Type} [DecidableEq α] (acc : List α) (n : α) : List α := if n ∈ acc then acc else acc ++ [n]
def ded (l : List Int) : List Int := l.foldl addK []
theorem mem_addK {α : Type} [DecidableEq α] {acc : List α} {n x : α} : x ∈ addK acc n ↔ x ∈ acc ∨ x = n := by
  unfold addK
  split
  · rename_i h
    constructor
    · exact .inl
    · rintro (z | rfl)
      · exact z
      · exact h
  · simp
theorem nodup_addK {α : Type} [DecidableEq α] {acc : List α} {n : α} (h : acc.Nodup) : (addK acc n).Nodup := by
  unfold addK
  split
  · exact h
  · rename_i hn
    rw [List.nodup_append]
    refine ⟨h, by simp, ?_⟩
    intro a ha b hb
    rw [List.mem_singleton] at hb
    subst hb
    exact fun z => hn (z ▸ ha)
theorem fold_addK {α : Type} [DecidableEq α] : ∀ (l acc : List α), acc.Nodup → (l.foldl addK acc).Nodup ∧ ∀ x, x ∈ l.foldl addK acc ↔ x ∈ acc ∨ x ∈ l
  | [], acc, h => ⟨h, fun x => by simp⟩
  | n :: l, acc, h => by
    obtain ⟨a, b⟩ := fold_addK l (addK acc n) (nodup_addK h)
    refine ⟨a, fun x => ?_⟩
    rw [List.foldl_cons, b, mem_addK, List.mem_cons, or_assoc]
theorem ded_nodup (l : List Int) : (ded l).Nodup := (fold_addK l [] List.nodup_nil).1
theorem mem_ded {l : List Int} {x : Int} : x ∈ ded l ↔ x ∈ l := by
  have := (fold_addK l [] List.nodup_nil).2 x
  unfold ded
  rw [this]
  simp
theorem len_addK {α : Type} [DecidableEq α] (acc : List α) (n : α) : (addK acc n).length ≤ acc.length + 1 := by
  unfold addK
  split
  · omega
  · simp
theorem len_fold {α : Type} [DecidableEq α] : ∀ (l acc : List α), (l.foldl addK acc).length ≤ acc.length + l.length
  | [], acc => by simp
  | n :: l, acc => by
    have := len_fold l (addK acc n)
    have := len_addK acc n
    rw [List.foldl_cons, List.length_cons]
    omega
theorem len_ded (l : List Int) : (ded l).length ≤ l.length := by
  have := len_fold l []
  unfold ded
  simpa using this
/-- all lists that take one of each -/
def prodL : List (List Int) → List (List Int)
  | [] => [[]]
  | l :: c => l.flatMap fun x => (prodL c).map (x :: ·)
def memC : List Int → List (List Int) → Bool
  | [], [] => true
  | x :: xs, l :: c => decide (x ∈ l) && memC xs c
  | _, _ => false
theorem mem_prod : ∀ {c : List (List Int)} {x : List Int}, x ∈ prodL c ↔ memC x c = true
  | [], [] => by simp [prodL, memC]
  | [], y :: ys => by simp [prodL, memC]
  | l :: c, [] => by simp [prodL, memC]
  | l :: c, y :: ys => by
    have ih := mem_prod (c := c) (x := ys)
    unfold prodL memC
    rw [List.mem_flatMap, Bool.and_eq_true, decide_eq_true_eq, ← ih]
    constructor
    · rintro ⟨z, hz, h⟩
      obtain ⟨w, hw, e⟩ := List.mem_map.mp h
      cases e
      exact ⟨hz, hw⟩
    · rintro ⟨h1, h2⟩
      exact ⟨y, h1, List.mem_map.mpr ⟨ys, h2, rfl⟩⟩
theorem nodup_fm {P : List (List Int)} (hP : P.Nodup) : ∀ l : List Int, l.Nodup → (l.flatMap fun x => P.map (x :: ·)).Nodup
  | [], _ => by simp
  | x :: l, h => by
    obtain ⟨h1, h2⟩ := List.nodup_cons.mp h
    rw [List.flatMap_cons, List.nodup_append]
    refine ⟨List.Pairwise.map _ (fun a b hab z => hab (List.cons.inj z).2) hP, nodup_fm hP l h2, fun a ha b hb e => ?_⟩
    obtain ⟨u, _, rfl⟩ := List.mem_map.mp ha
    obtain ⟨y, hy, hb⟩ := List.mem_flatMap.mp hb
    obtain ⟨v, _, rfl⟩ := List.mem_map.mp hb
    exact h1 ((List.cons.inj e).1 ▸ hy)
theorem nodup_prod : ∀ {c : List (List Int)}, (∀ l ∈ c, l.Nodup) → (prodL c).Nodup
  | [], _ => by simp [prodL]
  | l :: c, h => nodup_fm (nodup_prod (c := c) fun x hx => h x (List.mem_cons_of_mem _ hx)) l (h l List.mem_cons_self)
theorem len_fm (P : List (List Int)) : ∀ l : List Int, (l.flatMap fun x => P.map (x :: ·)).length = l.length * P.length
  | [] => by simp
  | x :: l => by rw [List.flatMap_cons, List.length_append, len_fm P l, List.length_map, List.length_cons, Nat.add_mul, Nat.one_mul, Nat.add_comm]
def sizeN (c : List (List Int)) : Nat := c.foldl (fun t l => t * l.length) 1
theorem fold_size : ∀ (c : List (List Int)) (k : Nat), c.foldl (fun t l => t * l.length) k = k * (prodL c).length
  | [], k => by simp [prodL]
  | l :: c, k => by
    have e : (prodL (l :: c)).length = l.length * (prodL c).length := len_fm (prodL c) l
    rw [List.foldl_cons, fold_size c, e, Nat.mul_assoc]
theorem size_prod (c : List (List Int)) : sizeN c = (prodL c).length := by
  unfold sizeN
  rw [fold_size, Nat.one_mul]
def joinN (c d : List (List Int)) : List (List Int) := List.zipWith (fun m t => ded (m.filter fun n => decide (n ∈ t))) c d
theorem join_len (c d : List (List Int)) (h : c.length = d.length) : (joinN c d).length = c.length := by
  unfold joinN
  rw [List.length_zipWith]
  omega
theorem mem_join : ∀ {c d : List (List Int)} {x : List Int}, c.length = d.length → memC x (joinN c d) = (memC x c && memC x d)
  | [], [], x, _ => by
    show memC x [] = _
    cases memC x [] <;> rfl
  | l :: c, m :: d, [], h => by rfl
  | l :: c, m :: d, x :: xs, h => by
    have ih := mem_join (c := c) (d := d) (x := xs) (by simpa using h)
    show (decide (x ∈ ded _) && memC xs (joinN c d)) = ((decide (x ∈ l) && memC xs c) && (decide (x ∈ m) && memC xs d))
    rw [ih]
    have e : decide (x ∈ ded (l.filter fun n => decide (n ∈ m))) = (decide (x ∈ l) && decide (x ∈ m)) := by
      rw [Bool.eq_iff_iff, Bool.and_eq_true, decide_eq_true_eq, decide_eq_true_eq, decide_eq_true_eq, mem_ded, List.mem_filter, decide_eq_true_eq]
    rw [e]
    cases decide (x ∈ l) <;> cases decide (x ∈ m) <;> cases memC xs c <;> cases memC xs d <;> rfl
theorem join_nodup : ∀ {c d : List (List Int)}, ∀ l ∈ joinN c d, l.Nodup
  | [], d, l, h => by simp [joinN] at h
  | _ :: _, [], l, h => by simp [joinN] at h
  | a :: c, b :: d, l, h => by
    have h : l ∈ ded (a.filter fun n => decide (n ∈ b)) :: joinN c d := h
    rcases List.mem_cons.mp h with rfl | h
    · exact ded_nodup _
    · exact join_nodup l h
theorem join_small {N : Nat} : ∀ {c d : List (List Int)}, (∀ l ∈ c, l.length ≤ N) → ∀ l ∈ joinN c d, l.length ≤ N
  | [], d, _, l, h => by simp [joinN] at h
  | _ :: _, [], _, l, h => by simp [joinN] at h
  | a :: c, b :: d, hs, l, h => by
    have h : l ∈ ded (a.filter fun n => decide (n ∈ b)) :: joinN c d := h
    rcases List.mem_cons.mp h with rfl | h
    · exact Nat.le_trans (len_ded _) (Nat.le_trans (List.length_filter_le _ _) (hs a List.mem_cons_self))
    · exact join_small (fun x hx => hs x (List.mem_cons_of_mem _ hx)) l h
def unionN : List (List Int) → List (List (List Int)) → Int
  | _, [] => 0
  | c, f :: r => if sizeN c = 0 then 0 else ((sizeN (joinN c f) : Nat) : Int) + unionN c r - unionN (joinN c f) r
theorem count_or {α : Type} (p q : α → Bool) : ∀ l : List α, l.countP (fun x => p x || q x) + l.countP (fun x => p x && q x) = l.countP p + l.countP q
  | [] => rfl
  | x :: l => by
    have ih := count_or p q l
    simp only [List.countP_cons]
    cases p x <;> cases q x <;> simp <;> omega
theorem count_join {c d : List (List Int)} (hc : ∀ l ∈ c, l.Nodup) (hl : c.length = d.length) (p : List Int → Bool) : (prodL (joinN c d)).countP p = (prodL c).countP (fun x => memC x d && p x) := by
  have hp : (prodL (joinN c d)).Perm ((prodL c).filter fun x => memC x d) := by
    rw [List.perm_ext_iff_of_nodup (nodup_prod join_nodup) ((nodup_prod hc).filter _)]
    intro x
    rw [mem_prod, mem_join hl, List.mem_filter, mem_prod, Bool.and_eq_true]
  rw [hp.countP_eq, List.countP_filter]
  congr 1
  funext x
  rw [Bool.and_comm]
theorem union_eq : ∀ {ls : List (List (List Int))} {c : List (List Int)}, (∀ l ∈ c, l.Nodup) → (∀ l ∈ ls, c.length = l.length) → unionN c ls = (((prodL c).countP fun x => ls.any fun l => memC x l : Nat) : Int)
  | [], c, hc, hl => by
    unfold unionN
    simp
  | f :: r, c, hc, hl => by
    have hf := hl f List.mem_cons_self
    unfold unionN
    split
    · rename_i h0
      rw [size_prod, List.length_eq_zero_iff] at h0
      rw [h0]
      rfl
    · rw [union_eq (ls := r) hc fun l h => hl l (List.mem_cons_of_mem _ h), union_eq (ls := r) (c := joinN c f) (fun l h => join_nodup l h) fun l h => by rw [join_len _ _ hf]; exact hl l (List.mem_cons_of_mem _ h)]
      rw [count_join hc hf, size_prod]
      have e1 : (prodL (joinN c f)).length = (prodL c).countP fun x => memC x f := by
        have := count_join hc hf fun _ => true
        simpa using this
      rw [e1]
      have := count_or (fun x => memC x f) (fun x => r.any fun l => memC x l) (prodL c)
      simp only [List.any_cons]
      omega

/-! ### how many states a disk's lots can leave -/
def choicesN (s : Dsk) (lot : Nat) : List (List Int) := (List.range s.sure.length).map fun r => ded (mayHave s lot ((r : Nat) : Int))
def fullLot (s : Dsk) (j : Nat) : Bool := !((s.lots[j]?).getD []).isEmpty
def lotsUp (s : Dsk) (i : Nat) : List (List (List Int)) := ((List.range i).filter (fullLot s)).map (choicesN s)
def everyN (m : Nat) (ls : List (List (List Int))) : List (List Int) := (List.range m).map fun r => ded ((ls.map fun l => (l[r]?).getD []).flatten)
def countN (s : Dsk) : Int := if lotsUp s s.lots.length = [] then 1 else unionN (everyN s.sure.length (lotsUp s s.lots.length)) (lotsUp s s.lots.length)
theorem memC_iff : ∀ {c : List (List Int)} {x : List Int}, memC x c = true ↔ x.length = c.length ∧ ∀ (i : Nat) (y : Int) (l : List Int), x[i]? = some y → c[i]? = some l → y ∈ l
  | [], [] => by simp [memC]
  | [], y :: ys => by simp [memC]
  | l :: c, [] => by simp [memC]
  | l :: c, y :: ys => by
    have ih := memC_iff (c := c) (x := ys)
    show (decide (y ∈ l) && memC ys c) = true ↔ _
    rw [Bool.and_eq_true, decide_eq_true_eq, ih]
    constructor
    · rintro ⟨h1, h2, h3⟩
      refine ⟨by simpa using h2, fun i z m hz hm => ?_⟩
      cases i with
      | zero =>
        simp only [List.getElem?_cons_zero, Option.some.injEq] at hz hm
        exact hz ▸ hm ▸ h1
      | succ i => exact h3 i z m (by simpa using hz) (by simpa using hm)
    · rintro ⟨h2, h3⟩
      exact ⟨h3 0 y l rfl rfl, by simpa using h2, fun i z m hz hm => h3 (i + 1) z m (by simpa using hz) (by simpa using hm)⟩
theorem choices_len (s : Dsk) (lot : Nat) : (choicesN s lot).length = s.sure.length := by
  unfold choicesN
  rw [List.length_map, List.length_range]
theorem choices_get {s : Dsk} {lot i : Nat} (h : i < s.sure.length) : (choicesN s lot)[i]? = some (ded (mayHave s lot ((i : Nat) : Int))) := by
  unfold choicesN
  rw [List.getElem?_map, List.getElem?_range h]
  rfl
theorem memC_choices {s : Dsk} {lot : Nat} {x : List Int} : memC x (choicesN s lot) = true ↔ x.length = s.sure.length ∧ goodLot s x lot = true := by
  rw [memC_iff, choices_len, good_iff]
  constructor
  · rintro ⟨h1, h2⟩
    refine ⟨h1, fun i y hy => ?_⟩
    have hi := (List.getElem?_eq_some_iff.mp hy).1
    exact mem_ded.mp (h2 i y _ hy (choices_get (by omega)))
  · rintro ⟨h1, h2⟩
    refine ⟨h1, fun i y l hy hl => ?_⟩
    have hi := (List.getElem?_eq_some_iff.mp hy).1
    rw [choices_get (by omega)] at hl
    cases hl
    exact mem_ded.mpr (h2 i y hy)
theorem every_len (m : Nat) (ls : List (List (List Int))) : (everyN m ls).length = m := by
  unfold everyN
  rw [List.length_map, List.length_range]
theorem every_nodup {m : Nat} {ls : List (List (List Int))} : ∀ l ∈ everyN m ls, l.Nodup := fun l h => by
  obtain ⟨r, _, rfl⟩ := List.mem_map.mp h
  exact ded_nodup _
theorem mem_every {m : Nat} {ls : List (List (List Int))} {l : List (List Int)} {x : List Int} (hl : l ∈ ls) (hm : l.length = m) (h : memC x l = true) : memC x (everyN m ls) = true := by
  rw [memC_iff] at h ⊢
  obtain ⟨h1, h2⟩ := h
  refine ⟨by rw [every_len]; omega, fun i y k hy hk => ?_⟩
  have hi := (List.getElem?_eq_some_iff.mp hy).1
  unfold everyN at hk
  rw [List.getElem?_map, List.getElem?_range (by omega)] at hk
  cases hk
  rw [mem_ded, List.mem_flatten]
  have e : l[i]? = some l[i] := List.getElem?_eq_getElem (by omega)
  exact ⟨_, List.mem_map.mpr ⟨l, hl, rfl⟩, by rw [e]; exact h2 i y _ hy e⟩
theorem mem_lotsUp {s : Dsk} {i : Nat} {l : List (List Int)} : l ∈ lotsUp s i ↔ ∃ j, j < i ∧ fullLot s j = true ∧ l = choicesN s j := by
  unfold lotsUp
  rw [List.mem_map]
  constructor
  · rintro ⟨j, hj, rfl⟩
    obtain ⟨h1, h2⟩ := List.mem_filter.mp hj
    exact ⟨j, List.mem_range.mp h1, h2, rfl⟩
  · rintro ⟨j, h1, h2, rfl⟩
    exact ⟨j, List.mem_filter.mpr ⟨List.mem_range.mpr h1, h2⟩, rfl⟩
theorem empty_lot {s : Dsk} {j : Nat} (h : fullLot s j = false) : (s.lots[j]?).getD [] = [] := by
  unfold fullLot at h
  simpa using h
theorem with_succ {s : Dsk} {i : Nat} : s.with_ (i + 1) = ((s.lots[i]?).getD []).foldl setP (s.with_ i) := by
  unfold Dsk.with_
  rw [List.take_add_one, List.flatten_append, List.foldl_append]
  cases s.lots[i]? <;> simp
theorem with_sure {s : Dsk} : ∀ {i : Nat}, (∀ j, j < i → fullLot s j = false) → s.with_ i = s.sure
  | 0, _ => rfl
  | i + 1, h => by rw [with_succ, empty_lot (h i (by omega)), List.foldl_nil, with_sure fun j hj => h j (by omega)]
theorem good_empty {s : Dsk} {x : List Int} {j : Nat} (he : fullLot s j = false) (hl : x.length = s.sure.length) : goodLot s x j = true ↔ x = s.with_ j := by
  rw [good_iff]
  unfold mayHave
  rw [empty_lot he]
  constructor
  · intro h
    refine List.ext_getElem? fun i => ?_
    by_cases hi : i < x.length
    · have hw : i < (s.with_ j).length := by rw [Dsk.with_len]; omega
      have := h i x[i] (List.getElem?_eq_getElem hi)
      rw [Int.toNat_natCast, List.getElem?_eq_getElem hw] at this
      rw [List.getElem?_eq_getElem hi, List.getElem?_eq_getElem hw]
      simpa using this
    · rw [List.getElem?_eq_none (by omega), List.getElem?_eq_none (by rw [Dsk.with_len]; omega)]
  · rintro rfl i y hy
    rw [Int.toNat_natCast, hy]
    simp
theorem good_with {s : Dsk} (j : Nat) : goodLot s (s.with_ j) j = true := by
  rw [good_iff]
  intro i y hy
  unfold mayHave
  rw [Int.toNat_natCast, hy]
  exact List.mem_cons_self
theorem fold_from : ∀ (ps : List (Int × Int)) (l : List Int) (i : Nat) (y : Int), (∀ p ∈ ps, 0 ≤ p.1) → (ps.foldl setP l)[i]? = some y → l[i]? = some y ∨ (((i : Nat) : Int), y) ∈ ps
  | [], l, i, y, _, h => .inl h
  | p :: ps, l, i, y, h0, h => by
    rw [List.foldl_cons] at h
    rcases fold_from ps (setP l p) i y (fun q hq => h0 q (List.mem_cons_of_mem _ hq)) h with z | z
    · unfold setP at z
      rw [List.getElem?_set] at z
      have a := h0 p List.mem_cons_self
      split at z
      · split at z
        · rename_i e _
          cases z
          refine .inr (List.mem_cons.mpr (.inl ?_))
          obtain ⟨p1, p2⟩ := p
          dsimp only at e a ⊢
          rw [← e, Int.toNat_of_nonneg a]
        · cases z
      · exact .inl z
    · exact .inr (List.mem_cons_of_mem _ z)
theorem good_next {s : Dsk} (ok : s.Ok) (j : Nat) : goodLot s (s.with_ (j + 1)) j = true := by
  rw [good_iff]
  intro i y hy
  rw [with_succ] at hy
  have hrm : ∀ p ∈ (s.lots[j]?).getD [], 0 ≤ p.1 := by
    cases e : s.lots[j]? with
    | none => intro p hp; cases hp
    | some w => exact fun p hp => (ok.rooms w (List.mem_of_getElem? e) p hp).1
  unfold mayHave
  rw [Int.toNat_natCast, List.mem_cons]
  rcases fold_from _ _ _ _ hrm hy with z | z
  · left
    rw [z]
    rfl
  · right
    exact List.mem_map.mpr ⟨(((i : Nat) : Int), y), List.mem_filter.mpr ⟨z, by simp⟩, rfl⟩
theorem near {s : Dsk} (ok : s.Ok) : ∀ i : Nat, (∀ j, j < i → fullLot s j = false) ∨ ∃ j, j < i ∧ fullLot s j = true ∧ goodLot s (s.with_ i) j = true
  | 0 => .inl fun j h => by omega
  | i + 1 => by
    cases hf : fullLot s i with
    | true => exact .inr ⟨i, by omega, hf, good_next ok i⟩
    | false =>
      have e : s.with_ (i + 1) = s.with_ i := by rw [with_succ, empty_lot hf, List.foldl_nil]
      rcases near ok i with h | ⟨j, h1, h2, h3⟩
      · refine .inl fun j hj => ?_
        by_cases ej : j = i
        · rw [ej]; exact hf
        · exact h j (by omega)
      · exact .inr ⟨j, by omega, h2, by rw [e]; exact h3⟩
theorem first_full {s : Dsk} : ∀ i : Nat, (∀ j, j < i → fullLot s j = false) ∨ ∃ j, j < i ∧ fullLot s j = true ∧ ∀ k, k < j → fullLot s k = false
  | 0 => .inl fun j h => by omega
  | i + 1 => by
    rcases first_full (s := s) i with h | ⟨j, h1, h2, h3⟩
    · cases hf : fullLot s i with
      | true => exact .inr ⟨i, by omega, hf, h⟩
      | false =>
        refine .inl fun j hj => ?_
        by_cases ej : j = i
        · rw [ej]; exact hf
        · exact h j (by omega)
    · exact .inr ⟨j, by omega, h2, h3⟩
/-- what an empty lot can leave, a full one can leave -/
theorem good_full {s : Dsk} (ok : s.Ok) {x : List Int} {i k : Nat} (hi : i < s.lots.length) (hk : k < s.lots.length) (hf : fullLot s k = true) (hl : x.length = s.sure.length) (hg : goodLot s x i = true) : ∃ j, j < s.lots.length ∧ fullLot s j = true ∧ goodLot s x j = true := by
  cases hfi : fullLot s i with
  | true => exact ⟨i, hi, hfi, hg⟩
  | false =>
    have e := (good_empty hfi hl).mp hg
    subst e
    rcases near ok i with h | ⟨j, h1, h2, h3⟩
    · rcases first_full (s := s) (k + 1) with g | ⟨j, h1, h2, h3⟩
      · rw [g k (by omega)] at hf
        cases hf
      · refine ⟨j, by omega, h2, ?_⟩
        rw [with_sure h, ← with_sure h3]
        exact good_with j
    · exact ⟨j, by omega, h2, h3⟩
theorem states_count {s : Dsk} (ok : s.Ok) {xs : List (List Int)} (nd : xs.Nodup) (hm : ∀ x, x ∈ xs ↔ x.length = s.sure.length ∧ ∃ lot, lot < s.lots.length ∧ goodLot s x lot = true) : ((xs.length : Nat) : Int) = countN s := by
  have hpos : 0 < s.lots.length := List.length_pos_iff.mpr ok.ne
  unfold countN
  split
  · rename_i h0
    have he : ∀ j, j < s.lots.length → fullLot s j = false := fun j hj => by
      cases hf : fullLot s j with
      | false => rfl
      | true =>
        have : choicesN s j ∈ lotsUp s s.lots.length := mem_lotsUp.mpr ⟨j, hj, hf, rfl⟩
        rw [h0] at this
        cases this
    have hp : xs.Perm [s.sure] := by
      rw [List.perm_ext_iff_of_nodup nd (by simp)]
      intro x
      rw [hm, List.mem_singleton]
      constructor
      · rintro ⟨h1, j, hj, hg⟩
        rw [(good_empty (he j hj) h1).mp hg]
        exact with_sure fun k hk => he k (by omega)
      · rintro rfl
        exact ⟨rfl, 0, hpos, good_with 0⟩
    rw [hp.length_eq]
    rfl
  · rename_i h0
    have hls : ∀ l ∈ lotsUp s s.lots.length, l.length = s.sure.length := fun l hl => by
      obtain ⟨j, _, _, rfl⟩ := mem_lotsUp.mp hl
      exact choices_len s j
    rw [union_eq every_nodup fun l hl => by rw [every_len, hls l hl]]
    obtain ⟨c, hc⟩ := List.exists_mem_of_ne_nil _ h0
    obtain ⟨k, hk, hkf, _⟩ := mem_lotsUp.mp hc
    rw [List.countP_eq_length_filter]
    have hp : xs.Perm ((prodL (everyN s.sure.length (lotsUp s s.lots.length))).filter fun x => (lotsUp s s.lots.length).any fun l => memC x l) := by
      rw [List.perm_ext_iff_of_nodup nd ((nodup_prod every_nodup).filter _)]
      intro x
      rw [hm, List.mem_filter, mem_prod, List.any_eq_true]
      constructor
      · rintro ⟨h1, i, hi, hg⟩
        obtain ⟨j, hj, hjf, hjg⟩ := good_full ok hi hk hkf h1 hg
        have h2 : choicesN s j ∈ lotsUp s s.lots.length := mem_lotsUp.mpr ⟨j, hj, hjf, rfl⟩
        have h3 : memC x (choicesN s j) = true := memC_choices.mpr ⟨h1, hjg⟩
        exact ⟨mem_every h2 (choices_len s j) h3, _, h2, h3⟩
      · rintro ⟨_, l, hl, h3⟩
        obtain ⟨j, hj, _, rfl⟩ := mem_lotsUp.mp hl
        obtain ⟨h1, h2⟩ := memC_choices.mp h3
        exact ⟨h1, j, hj, h2⟩
    rw [hp.length_eq]

/-! ### dicts of numbers -/
def keysD (l : List Int) : List (Key × V) := l.map fun n => ((Sum.inl n : Key), V.bl true)
theorem keys_val : ∀ (l : List Int) (n : Int), valV (keysD l) (Sum.inl n : Key) = if n ∈ l then some (V.bl true) else none
  | [], n => rfl
  | x :: l, n => by
    rw [show keysD (x :: l) = ((Sum.inl x : Key), V.bl true) :: keysD l from rfl]
    by_cases e : x = n
    · subst e
      rw [valV_pos rfl, if_pos List.mem_cons_self]
    · rw [valV_neg (by intro z; exact e (Sum.inl.inj z)), keys_val l n]
      have : n ∈ x :: l ↔ n ∈ l := by
        rw [List.mem_cons]
        exact ⟨fun h => h.resolve_left fun z => e z.symm, .inr⟩
      by_cases h : n ∈ l
      · rw [if_pos h, if_pos (this.mpr h)]
      · rw [if_neg h, if_neg fun z => h (this.mp z)]
theorem keys_put (l : List Int) (n : Int) : putK (keysD l) (Sum.inl n : Key) (V.bl true) = keysD (addK l n) := by
  unfold addK
  by_cases h : n ∈ l
  · rw [if_pos h]
    unfold putK
    rw [valV_any, keys_val, if_pos h, if_pos (show (some (V.bl true)).isSome = true from rfl)]
    unfold keysD
    rw [List.map_map]
    refine List.map_congr_left fun x _ => ?_
    show (if (Sum.inl x : Key) = Sum.inl n then _ else _) = _
    split <;> rfl
  · rw [if_neg h, putK_new _ (by rw [keys_val, if_neg h])]
    unfold keysD
    rw [List.map_append]
    rfl
theorem keys_len (l : List Int) : (keysD l).length = l.length := by
  unfold keysD
  rw [List.length_map]
theorem yesY {σ : L2.St} {H : Hp} {A B : Hp → Prop} (h : A H) : tYes σ H (fun b H3 => if b = true then A H3 else B H3) := by
  unfold tYes
  dsimp only
  rw [if_pos rfl]
  exact h
def DkAt (H : Hp) (p : Addr) (l : List Int) : Prop := H p = some (.dK (keysD l))
def ChAt (H : Hp) (a : Addr) (ps : List Addr) (c : List (List Int)) : Prop := H a = some (.lst (ps.map V.ref)) ∧ All2 (DkAt H) ps c
theorem ChAt.same {H H' : Hp} {a : Addr} {ps : List Addr} {c : List (List Int)} (h : ChAt H a ps c) (s : Same H H') : ChAt H' a ps c := ⟨s _ _ h.1, h.2.imp fun _ _ _ _ e => s _ _ e⟩
theorem upd_back {H : Hp} {p D : Addr} {u f x : HO} (h : H p = some u) (hn : D ≠ p) : upd (upd (upd H p f) D x) p u = upd H D x := by
  funext b
  unfold upd
  by_cases e : b = p
  · subst e
    rw [if_pos rfl, if_neg fun z => hn z.symm, h]
  · rw [if_neg e]
    by_cases e2 : b = D
    · rw [if_pos e2, if_pos e2]
    · rw [if_neg e2, if_neg e2, if_neg e]
/-- a dict comprehension over a walk -/
theorem dc_it {J : It} {n : Nat} {G : Hp → Prop} {Y : Nat → Hp → V → Hp → Prop} (w : Walk J n G Y) {g : TG} {tt : TT} {tk tv : TE} {vs : List Nat} {σ : L2.St} {H1 : Hp} {D : Addr} {Qd : Hp → Prop} (Pv : Nat → Hp → Prop) (h0 : Pv 0 (upd H1 D (.dK []))) (hG : ∀ i H, i ≤ n → Pv i H → G H)
    (hs : ∀ i x H H', i < n → Pv i H → Y i H x H' → g x (wipe σ vs) H' fun σ2 H2 => wipe σ2 vs = wipe σ vs ∧ tt σ2 H2 fun b H3 =>
      if b = true then tk σ2 H3 fun y H4 => tv σ2 H4 fun z H5 => ∃ kvs k, y = kV k ∧ H5 D = some (.dK kvs) ∧ kvs.length < sizeLine ∧ Pv (i + 1) (upd H5 D (.dK (putK kvs k z))) else Pv (i + 1) H3) (hd : ∀ H, Pv n H → Qd H) :
    ∃ W : Nat → Nat → Hp → Prop, (∃ m, W 0 m (upd H1 D (.dK []))) ∧ ∀ i m H, W i m H →
      (J.stop i H ∧ Qd H) ∨ (J.go i H ∧ ∃ Nx : Hp → Prop, (∀ H', Nx H' → ∃ m', m' < m ∧ W (i + 1) m' H') ∧ ∀ x H', J.yld i H x H' → g x (wipe σ vs) H' fun σ2 H2 => wipe σ2 vs = wipe σ vs ∧ tt σ2 H2 fun b H3 =>
        if b = true then tk σ2 H3 fun y H4 => tv σ2 H4 fun z H5 => ∃ kvs k, y = kV k ∧ H5 D = some (.dK kvs) ∧ kvs.length < sizeLine ∧ Nx (upd H5 D (.dK (putK kvs k z))) else Nx H3) := by
  refine ⟨fun i m H => m = n - i ∧ i ≤ n ∧ Pv i H, ⟨n, by simp, Nat.zero_le _, h0⟩, ?_⟩
  rintro i m H ⟨rfl, hi, p⟩
  have q := hG i H hi p
  by_cases hlt : i < n
  · refine .inr ⟨w.goes i H hlt q, Pv (i + 1), fun H' p' => ⟨n - (i + 1), by omega, rfl, hlt, p'⟩, fun x H' y => hs i x H H' hlt p (w.yields i H x H' hlt q y)⟩
  · have e : i = n := by omega
    subst e
    exact .inl ⟨w.stops H q, hd H p⟩
theorem may_small {s : Dsk} (ok : s.Ok) (lot : Nat) (r : Int) : (mayHave s lot r).length ≤ 1000001 := by
  unfold mayHave
  rw [List.length_cons, List.length_map]
  refine Nat.succ_le_succ (Nat.le_trans (List.length_filter_le _ _) ?_)
  cases e : s.lots[lot]? with
  | none => exact Nat.zero_le _
  | some w =>
    refine Nat.le_trans ?_ ok.few
    obtain ⟨l1, l2, e⟩ := List.append_of_mem (List.mem_of_getElem? e)
    conv => rhs; rw [e, List.flatten_append, List.length_append, List.flatten_cons, List.length_append]
    show w.length ≤ _
    omega
def sp_choices_of (K : PySem.W.Frag) : Sp := fun vs H Q _ => ∃ (L : DL) (s : Dsk) (lot : Nat), vs = [.ref L.d, .int (lot : Nat)] ∧ DiskAt K H L s ∧ s.Ok ∧ lot < s.lots.length ∧
  ∀ a ps H', Same H H' → H a = none → (∀ p ∈ ps, H p = none) → ChAt H' a ps (choicesN s lot) → Q (.ref a) H'
def t_choices_of (K : PySem.W.Frag) : TS := (tRet (tLc (iRng1 (tCons (tMeth (He.ga K "Disk") "rooms" (sp_Disk_rooms K) [] E0 (tVar 0) tNil) tNil)) (gName 2) tYes (tDc (iList K (tCall (sp_may_have K) [] E0 (tCons (tVar 0) (tCons (tVar 1) (tCons (tVar 2) tNil))))) (gName 3) tYes (tVar 3) (tC (.bl true)) [3]) [2]))
theorem len_choices_of {K : PySem.W.Frag} (vs : List V) (H : Hp) (Q : VK) (E : XK) (h : sp_choices_of K vs H Q E) : vs.length = (["disk", "lot"] : List Str).length := by
  unfold sp_choices_of at h
  repeat (first | (obtain ⟨e, _⟩ := h; rw [e]; done) | (obtain ⟨e, _⟩ := h; rw [e]; rfl; done) | obtain ⟨_, h⟩ := h)
theorem pure_choices_of {K : PySem.W.Frag} (pf : PF K) {vs : List V} {H : Hp} {Q : VK} {E : XK} (h : sp_choices_of K vs H Q E) : t_choices_of K { nx := fun _ H' => Q .non H', rt := Q } (start ["disk", "lot", "room", "number"] vs) H := by
  obtain ⟨L, s, lot, rfl, h, ok, hl, q⟩ := h
  obtain ⟨dx, ho⟩ := h.ob
  have sz := ok.size
  refine ⟨_, rfl, L.d, dx, _, rfl, ho, rfl, L, s, rfl, h, _, rfl, by omega, by omega, fun D hD => ?_⟩
  rw [Int.toNat_natCast]
  refine lc_range (fun i H1 => Same H H1 ∧ ∃ ps : List Addr, H1 D = some (.lst (ps.map V.ref)) ∧ All2 (DkAt H1) ps ((choicesN s lot).take i) ∧ ∀ p ∈ ps, H p = none ∧ p ≠ D) ⟨same_upd hD, [], upd_same, .nil, fun p hp => by cases hp⟩ ?_ ?_
  · rintro i H1 hi ⟨s1, ps, e1, A1, n1⟩
    rw [Int.zero_add]
    refine ⟨rfl, yesY ?_⟩
    refine ⟨_, rfl, _, rfl, _, rfl, L, s, lot, ((i : Nat) : Int), rfl, h.same s1, ok, hl, by omega, by omega, fun m H2 hm s2 e2 => ⟨m, rfl, ⟨_, SqL.of e2⟩, fun D2 hD2 => ?_⟩⟩
    refine dc_it (walk_list (K := K)) (fun j H3 => H3 = upd H2 D2 (.dK (keysD (((mayHave s lot ((i : Nat) : Int)).take j).foldl addK [])))) rfl (fun j H3 _ e => by rw [e]; exact SqL.of ((upd_ne (ne_of_none e2 hD2)).trans e2)) ?_ ?_
    · rintro j x H3 _ hj rfl ⟨rfl, hx⟩
      rw [List.length_map] at hj
      rw [List.getElem?_map, List.getElem?_eq_getElem hj] at hx
      cases hx
      refine ⟨rfl, yesY ?_⟩
      refine ⟨_, rfl, _, .inl (mayHave s lot ((i : Nat) : Int))[j], rfl, upd_same, ?_, ?_⟩
      · rw [keys_len]
        have := len_fold ((mayHave s lot ((i : Nat) : Int)).take j) []
        have := may_small ok lot ((i : Nat) : Int)
        rw [List.length_take] at *
        exact sz_lt (by simp at *; omega)
      · rw [upd_upd, keys_put, take_one (List.getElem?_eq_getElem hj), List.foldl_append]
        rfl
    · rintro H3 rfl
      rw [List.length_map, List.take_length]
      have eD : H2 D = _ := s2 _ _ e1
      have nD : D2 ≠ D := (ne_of_none eD hD2).symm
      have s3 : Same H (upd H2 D2 (.dK (keysD ((mayHave s lot ((i : Nat) : Int)).foldl addK [])))) := (s1.trans s2).trans (same_upd hD2)
      refine ⟨_, (upd_ne nD.symm).trans eD, sz_lt (by rw [List.length_map, A1.len, List.length_take]; unfold choicesN; rw [List.length_map, List.length_range]; omega), ?_⟩
      refine ⟨fun b o e => (upd_ne (ne_of_none e hD)).trans (s3 b o e), ps ++ [D2], by rw [upd_same, List.map_append]; rfl, ?_, fun p hp => ?_⟩
      · rw [take_one (choices_get hi)]
        refine All2.append (A1.imp fun p l hp _ e => ?_) (.one ?_)
        · show upd _ _ _ p = _
          rw [upd_ne (n1 p hp).2]
          exact same_upd hD2 _ _ (s2 _ _ e)
        · show upd _ _ _ D2 = _
          rw [upd_ne nD, upd_same]
          rfl
      · rcases List.mem_append.mp hp with z | z
        · exact n1 p z
        · rw [List.mem_singleton] at z
          subst z
          exact ⟨(s1.trans s2).free hD2, nD⟩
  · rintro H1 ⟨s1, ps, e1, A1, n1⟩
    rw [← choices_len s lot, List.take_length] at A1
    exact q D ps H1 s1 hD (fun p hp => (n1 p hp).1) ⟨e1, A1⟩
def sp_joined (K : PySem.W.Frag) : Sp := fun vs H Q _ => ∃ (a : Addr) (ps : List Addr) (c : List (List Int)) (b : Addr) (qs : List Addr) (d : List (List Int)), vs = [.ref a, .ref b] ∧ ChAt H a ps c ∧ ChAt H b qs d ∧ c.length = d.length ∧ c.length ≤ 1000 ∧ (∀ l ∈ c, l.length ≤ 16000000) ∧
  ∀ r rs H', Same H H' → H r = none → ChAt H' r rs (joinN c d) → Q (.ref r) H'
theorem join_get {c d : List (List Int)} {i : Nat} {m t : List Int} (h1 : c[i]? = some m) (h2 : d[i]? = some t) : (joinN c d)[i]? = some (ded (m.filter fun n => decide (n ∈ t))) := by
  unfold joinN
  rw [List.getElem?_zipWith, h1, h2]
def t_joined (K : PySem.W.Frag) : TS := (tRet (tLc (iZip K (tCons (tVar 0) (tCons (tVar 1) tNil))) (gTup K 2 (gCons (gName 2) (gCons (gName 3) gNil))) tYes (tLockE (tDc (iKeys (tVar 2)) (gName 4) (tB (tDIn (tVar 4) (tVar 3))) (tVar 4) (tC (.bl true)) [4])) [2, 3]))
theorem len_joined {K : PySem.W.Frag} (vs : List V) (H : Hp) (Q : VK) (E : XK) (h : sp_joined K vs H Q E) : vs.length = (["rows", "others"] : List Str).length := by
  unfold sp_joined at h
  repeat (first | (obtain ⟨e, _⟩ := h; rw [e]; done) | (obtain ⟨e, _⟩ := h; rw [e]; rfl; done) | obtain ⟨_, h⟩ := h)
theorem pure_joined {K : PySem.W.Frag} (pf : PF K) {vs : List V} {H : Hp} {Q : VK} {E : XK} (h : sp_joined K vs H Q E) : t_joined K { nx := fun _ H' => Q .non H', rt := Q } (start ["rows", "others", "mine", "theirs", "number"] vs) H := by
  obtain ⟨a, ps, c, b, qs, d, rfl, ⟨ea, Aa⟩, ⟨eb, Ab⟩, hcd, hc, hsm, q⟩ := h
  refine ⟨_, rfl, _, rfl, a, b, _, _, rfl, SqL.of ea, SqL.of eb, fun D hD => ?_⟩
  have la := Aa.len
  have lb := Ab.len
  refine lc_it (walk_zip (n := c.length) (by rw [List.length_map, List.length_map]; omega)) (fun i H1 => Same H H1 ∧ ∃ rs : List Addr, H1 D = some (.lst (rs.map V.ref)) ∧ All2 (DkAt H1) rs ((joinN c d).take i) ∧ ∀ p ∈ rs, p ≠ D) ⟨same_upd hD, [], upd_same, .nil, fun p hp => by cases hp⟩ (fun i H1 _ h1 => ⟨SqL.of (h1.1 _ _ ea), SqL.of (h1.1 _ _ eb)⟩) ?_ ?_
  · rintro i v H1 _ hi ⟨s1, rs, e1, A1, n1⟩ ⟨T, x, y, rfl, hT, rfl, hx, hy⟩
    have hx : (ps.map V.ref)[i]? = some x := hx
    have hy : (qs.map V.ref)[i]? = some y := hy
    rw [List.getElem?_map] at hx hy
    obtain ⟨p, hp, rfl⟩ := Option.map_eq_some_iff.mp hx
    obtain ⟨o, ho, rfl⟩ := Option.map_eq_some_iff.mp hy
    obtain ⟨m, hm, dm⟩ := Aa.get hp
    obtain ⟨t, ht, dt⟩ := Ab.get ho
    have s2 := s1.trans (same_upd (o := .tup [V.ref p, V.ref o]) hT)
    have sT := same_upd (o := .tup [V.ref p, V.ref o]) hT
    generalize hHT : upd H1 T (.tup [V.ref p, V.ref o]) = H2 at s2 sT
    refine ⟨T, _, rfl, SqT.of (by rw [← hHT]; exact upd_same), rfl, _, _, rfl, _, _, rfl, rfl, rfl, yesY ?_⟩
    refine ⟨p, _, s2 _ _ dm, trivial, fun od => ⟨_, rfl, p, od, rfl, .inl ⟨_, upd_same, fun D2 hD2 => ?_⟩⟩⟩
    have nD2 : D2 ≠ p := fun z => by rw [z, upd_same] at hD2; cases hD2
    have hD2' : H2 D2 = none := by rw [upd_ne nD2] at hD2; exact hD2
    refine dc_it walk_keys (fun j H3 => H3 = upd (upd H2 p (.frz od (.dK (keysD m)))) D2 (.dK (keysD (((m.take j).filter fun n => decide (n ∈ t)).foldl addK [])))) rfl (fun j H3 _ e => by rw [e, upd_ne nD2.symm]; exact upd_same) ?_ ?_
    · rintro j x H3 _ hj rfl ⟨rfl, k, v, hk, rfl⟩
      rw [keys_len] at hj
      have hk2 : (keysD m)[j]? = some ((Sum.inl m[j] : Key), V.bl true) := by
        unfold keysD
        rw [List.getElem?_map, List.getElem?_eq_getElem hj]
        rfl
      rw [hk2] at hk
      cases hk
      refine ⟨rfl, _, rfl, _, rfl, o, valV (keysD t) (Sum.inl m[j] : Key), rfl, ?_, _, rfl, ?_⟩
      · refine .inl ⟨keysD t, Sum.inl m[j], ?_, rfl, rfl⟩
        by_cases e : o = p
        · subst e
          have : t = m := by
            have a1 : H o = _ := dt
            have a2 : H o = _ := dm
            rw [a1] at a2
            have a3 : keysD t = keysD m := by injection a2 with a2; injection a2
            have a4 : t.length = m.length := by rw [← keys_len, ← keys_len, a3]
            refine List.ext_getElem a4 fun i h1 h2 => ?_
            have a5 : (keysD t)[i]? = (keysD m)[i]? := by rw [a3]
            unfold keysD at a5
            rw [List.getElem?_map, List.getElem?_map, List.getElem?_eq_getElem h1, List.getElem?_eq_getElem h2] at a5
            injection a5 with a5
            injection a5 with a5
            injection a5
          subst this
          exact .inr ⟨od, by rw [upd_ne nD2.symm]; exact upd_same⟩
        · refine .inl ?_
          have a1 : H2 o = _ := s2 _ _ dt
          rw [upd_ne (ne_of_none a1 hD2'), upd_ne e]
          exact a1
      · rw [keys_val]
        have etk : m.take (j + 1) = m.take j ++ [m[j]] := take_one (List.getElem?_eq_getElem hj)
        by_cases hin : m[j] ∈ t
        · rw [if_pos hin]
          refine iteT ⟨_, rfl, _, .inl m[j], rfl, upd_same, ?_, ?_⟩
          · rw [keys_len]
            have := len_fold ((m.take j).filter fun n => decide (n ∈ t)) []
            have := List.length_filter_le (fun n => decide (n ∈ t)) (m.take j)
            have := hsm m (List.mem_of_getElem? hm)
            rw [List.length_take] at *
            exact sz_lt (by simp at *; omega)
          · rw [upd_upd, keys_put, etk, List.filter_append, List.foldl_append, List.filter_cons_of_pos (by simpa using hin)]
            rfl
        · rw [if_neg hin]
          refine iteF ?_
          rw [etk, List.filter_append, List.foldl_append, List.filter_cons_of_neg (by simpa using hin)]
          rfl
    · rintro H3 rfl
      rw [keys_len, List.take_length]
      refine ⟨by rw [upd_ne nD2.symm]; exact upd_same, ?_⟩
      rw [upd_back (s2 _ _ dm) nD2]
      have eD : H2 D = _ := sT _ _ e1
      have nD : D2 ≠ D := (ne_of_none eD hD2').symm
      refine ⟨_, (upd_ne nD.symm).trans eD, sz_lt (by rw [List.length_map, A1.len, List.length_take]; omega), ?_⟩
      refine ⟨fun b o e => (upd_ne (ne_of_none e hD)).trans ((s2.trans (same_upd hD2')) b o e), rs ++ [D2], by rw [upd_same, List.map_append]; rfl, ?_, fun p hp => ?_⟩
      · rw [take_one (join_get hm ht)]
        refine All2.append (A1.imp fun p l hp _ e => ?_) (.one ?_)
        · show upd _ _ _ p = _
          rw [upd_ne (n1 p hp)]
          exact same_upd hD2' _ _ (sT _ _ e)
        · show upd _ _ _ D2 = _
          rw [upd_ne nD, upd_same]
          rfl
      · rcases List.mem_append.mp hp with z | z
        · exact n1 p z
        · rw [List.mem_singleton] at z
          subst z
          exact nD
  · rintro H1 ⟨s1, rs, e1, A1, n1⟩
    rw [← join_len c d hcd, List.take_length] at A1
    exact q D rs H1 s1 hD ⟨e1, A1⟩
def sp_size_of (K : PySem.W.Frag) : Sp := fun vs H Q _ => ∃ (a : Addr) (ps : List Addr) (c : List (List Int)), vs = [.ref a] ∧ ChAt H a ps c ∧ (∀ l ∈ c, l.length ≤ 16000000) ∧ Q (.int ((sizeN c : Nat) : Int)) H
def t_size_of (K : PySem.W.Frag) : TS := (tSeq (tAsg (tC (.int 1)) (gName 1))
    (tSeq (tFor (iList K (tVar 0)) (gName 2) (tAug 1 (tCB rLenD (tCons (tVar 2) tNil)) xMul))
    (tRet (tVar 1))))
theorem len_size_of {K : PySem.W.Frag} (vs : List V) (H : Hp) (Q : VK) (E : XK) (h : sp_size_of K vs H Q E) : vs.length = (["rows"] : List Str).length := by
  unfold sp_size_of at h
  repeat (first | (obtain ⟨e, _⟩ := h; rw [e]; done) | (obtain ⟨e, _⟩ := h; rw [e]; rfl; done) | obtain ⟨_, h⟩ := h)
theorem pure_size_of {K : PySem.W.Frag} (pf : PF K) {vs : List V} {H : Hp} {Q : VK} {E : XK} (h : sp_size_of K vs H Q E) : t_size_of K { nx := fun _ H' => Q .non H', rt := Q } (start ["rows", "total", "numbers"] vs) H := by
  obtain ⟨a, ps, c, rfl, ⟨ea, Aa⟩, hsm, q⟩ := h
  refine ⟨_, rfl, a, rfl, ⟨_, SqL.of ea⟩, ?_⟩
  refine for_list (xs := ps.map V.ref) (fun i σ H1 => H1 = H ∧ ∃ v2, σ = [some (.ref a), some (.int ((sizeN (c.take i) : Nat) : Int)), v2]) ⟨rfl, _, rfl⟩ (fun i σ H1 _ e => by rw [e.1]; exact SqL.of ea) ?_ ?_
  · rintro i x σ H1 hx ⟨rfl, v2, rfl⟩
    rw [List.getElem?_map] at hx
    obtain ⟨p, hp, rfl⟩ := Option.map_eq_some_iff.mp hx
    obtain ⟨m, hm, dm⟩ := Aa.get hp
    refine ⟨_, rfl, _, rfl, p, _, rfl, dm, _, _, rfl, rfl, .inr ?_, rfl, some (.ref p), ?_⟩
    · rw [keys_len]
      have := hsm m (List.mem_of_getElem? hm)
      omega
    · rw [take_one hm]
      unfold sizeN
      rw [List.foldl_append, keys_len]
      show _ = [_, some (V.int (((_ * _ : Nat)) : Int)), _]
      rw [Int.natCast_mul]
      rfl
  · rintro σ H1 ⟨rfl, v2, rfl⟩
    rw [List.length_map, Aa.len, List.take_length]
    exact ⟨_, rfl, q⟩
def ChE (H : Hp) (a : Addr) (c : List (List Int)) : Prop := ∃ ps, ChAt H a ps c
theorem che_same {H H' : Hp} (s : Same H H') {bs : List Addr} {ls : List (List (List Int))} (h : All2 (ChE H) bs ls) : All2 (ChE H') bs ls := h.imp fun _ _ _ _ ⟨ps, e⟩ => ⟨ps, e.same s⟩
def sp_union (dp : Nat) (K : PySem.W.Frag) : Sp := fun vs H Q _ => ∃ (a : Addr) (ps : List Addr) (c : List (List Int)) (b : Addr) (bs : List Addr) (ls : List (List (List Int))), vs = [.ref a, .ref b] ∧ ls.length ≤ dp ∧ ChAt H a ps c ∧ H b = some (.lst (bs.map V.ref)) ∧ All2 (ChE H) bs ls ∧ c.length ≤ 1000 ∧ (∀ l ∈ c, l.length ≤ 16000000) ∧ (∀ l ∈ ls, c.length = l.length) ∧
  ∀ H', Same H H' → Q (.int (unionN c ls)) H'
def t_union0 (K : PySem.W.Frag) : TS := (tSeq (tIfS (tOr (tTest (tOp (rEqE K) (tVar 1) (tLst tNil))) (tTest (tOp rEq (tCall (sp_size_of K) [] E0 (tCons (tVar 0) tNil)) (tC (.int 0))))) (tRet (tC (.int 0))) tNext)
    (tSeq (tAsg (tVar 1) (gStar K (gCons (gName 2) (gCons (gName 3) gNil))))
    (tSeq (tAsg (tCall (sp_joined K) [] E0 (tCons (tVar 0) (tCons (tVar 2) tNil))) (gName 4))
    tNever)))
def t_union (dp : Nat) (K : PySem.W.Frag) : TS := (tSeq (tIfS (tOr (tTest (tOp (rEqE K) (tVar 1) (tLst tNil))) (tTest (tOp rEq (tCall (sp_size_of K) [] E0 (tCons (tVar 0) tNil)) (tC (.int 0))))) (tRet (tC (.int 0))) tNext)
    (tSeq (tAsg (tVar 1) (gStar K (gCons (gName 2) (gCons (gName 3) gNil))))
    (tSeq (tAsg (tCall (sp_joined K) [] E0 (tCons (tVar 0) (tCons (tVar 2) tNil))) (gName 4))
    (tRet (tOp xSub (tOp xAdd (tCall (sp_size_of K) [] E0 (tCons (tVar 4) tNil)) (tCall (sp_union dp K) [] E0 (tCons (tVar 0) (tCons (tVar 3) tNil)))) (tCall (sp_union dp K) [] E0 (tCons (tVar 4) (tCons (tVar 3) tNil))))))))
theorem len_union (dp : Nat) {K : PySem.W.Frag} (vs : List V) (H : Hp) (Q : VK) (E : XK) (h : sp_union dp K vs H Q E) : vs.length = 2 := by
  obtain ⟨a, ps, c, b, bs, ls, rfl, _⟩ := h
  rfl
theorem pure_union0 {K : PySem.W.Frag} (pf : PFZ K) {vs : List V} {H : Hp} {Q : VK} {E : XK} (h : sp_union 0 K vs H Q E) : t_union0 K { nx := fun _ H' => Q .non H', rt := Q } (start ["rows", "lots", "first", "rest", "both"] vs) H := by
  obtain ⟨a, ps, c, b, bs, ls, rfl, hdp, hc, eb, Ab, hz, hsm, hll, q⟩ := h
  have e0 : ls = [] := List.length_eq_zero_iff.mp (by omega)
  subst e0
  have e1 : bs = [] := List.length_eq_zero_iff.mp Ab.len
  subst e1
  refine ⟨_, rfl, of_decide_eq_true rfl, fun w hw => ⟨b, w, _, rfl, rfl, SqL.of (same_upd hw _ _ eb), SqL.of upd_same, _, rfl, ?_⟩⟩
  exact iteT (iteT (q _ (same_upd hw)))
theorem pure_union {dp : Nat} {K : PySem.W.Frag} (pf : PFZ K) {vs : List V} {H : Hp} {Q : VK} {E : XK} (h : sp_union (dp + 1) K vs H Q E) : t_union dp K { nx := fun _ H' => Q .non H', rt := Q } (start ["rows", "lots", "first", "rest", "both"] vs) H := by
  obtain ⟨a, ps, c, b, bs, ls, rfl, hdp, hc, eb, Ab, hz, hsm, hll, q⟩ := h
  refine ⟨_, rfl, of_decide_eq_true rfl, fun w hw => ⟨b, w, _, rfl, rfl, SqL.of (same_upd hw _ _ eb), SqL.of upd_same, _, rfl, ?_⟩⟩
  have s1 := same_upd (o := .lst []) hw
  generalize upd H w (.lst []) = H1 at s1 ⊢
  cases Ab with
  | nil => exact iteT (iteT (q _ s1))
  | @cons b0 f bs r hf Ar =>
    refine iteF ?_
    have hc1 := hc.same s1
    refine ⟨_, rfl, a, ps, c, rfl, hc1, hsm, rfl, _, rfl, ?_⟩
    by_cases h0 : sizeN c = 0
    · rw [h0]
      refine iteT ?_
      have := q _ s1
      unfold unionN at this
      rw [if_pos h0] at this
      exact this
    · have q := fun H' s => q H' s
      unfold unionN at q
      rw [decide_eq_false (by intro z; injection z with z; omega)]
      refine iteF ?_
      refine ⟨_, rfl, b, _, _, rfl, SqL.of (s1 _ _ eb), fun p hp => ?_⟩
      have s2 := s1.trans (same_upd (o := .lst (bs.map V.ref)) hp)
      have ep : upd H1 p (.lst (bs.map V.ref)) p = some (.lst (bs.map V.ref)) := upd_same
      generalize upd H1 p (.lst (bs.map V.ref)) = H2 at s2 ep ⊢
      obtain ⟨qs, hf⟩ := hf
      have hl0 := hll f List.mem_cons_self
      have Ar2 := che_same s2 Ar
      refine ⟨_, _, rfl, _, _, rfl, rfl, _, rfl, _, rfl, a, ps, c, b0, qs, f, rfl, hc.same s2, hf.same s2, hl0, hz, hsm, fun j js H3 s3 hj hcj => ?_⟩
      have s23 := s2.trans s3
      refine ⟨_, rfl, j, js, joinN c f, rfl, hcj, join_small hsm, ?_⟩
      refine ⟨_, rfl, _, rfl, a, ps, c, p, bs, r, rfl, by simp at hdp; omega, hc.same s23, s3 _ _ ep, che_same s3 Ar2, hz, hsm, fun l hl => hll l (List.mem_cons_of_mem _ hl), fun H4 s4 => ?_⟩
      refine ⟨_, _, rfl, rfl, ?_⟩
      refine ⟨_, rfl, _, rfl, j, js, joinN c f, p, bs, r, rfl, by simp at hdp; omega, hcj.same s4, s4 _ _ (s3 _ _ ep), che_same s4 (che_same s3 Ar2), by rw [join_len _ _ hl0]; exact hz, join_small hsm, fun l hl => by rw [join_len _ _ hl0]; exact hll l (List.mem_cons_of_mem _ hl), fun H5 s5 => ?_⟩
      refine ⟨_, _, rfl, rfl, ?_⟩
      have := q H5 ((s23.trans s4).trans s5)
      rw [if_neg h0] at this
      exact this

/-! ### count -/
theorem w_it {J : It} {n : Nat} {G : Hp → Prop} {Y : Nat → Hp → V → Hp → Prop} (w : Walk J n G Y) {B : (Hp → Prop) → V → Hp → Prop} {H0 : Hp} {Qd : Hp → Prop} (Pv : Nat → Hp → Prop) (h0 : Pv 0 H0) (hG : ∀ i H, i ≤ n → Pv i H → G H)
    (hs : ∀ i x H H', i < n → Pv i H → Y i H x H' → B (Pv (i + 1)) x H') (hd : ∀ H, Pv n H → Qd H) :
    ∃ W : Nat → Nat → Hp → Prop, (∃ m, W 0 m H0) ∧ ∀ i m H, W i m H → (J.stop i H ∧ Qd H) ∨ (J.go i H ∧ ∃ Nx : Hp → Prop, (∀ H', Nx H' → ∃ m', m' < m ∧ W (i + 1) m' H') ∧ ∀ x H', J.yld i H x H' → B Nx x H') := by
  refine ⟨fun i m H => m = n - i ∧ i ≤ n ∧ Pv i H, ⟨n, by simp, Nat.zero_le _, h0⟩, ?_⟩
  rintro i m H ⟨rfl, hi, p⟩
  have q := hG i H hi p
  by_cases hlt : i < n
  · exact .inr ⟨w.goes i H hlt q, Pv (i + 1), fun H' p' => ⟨n - (i + 1), by omega, rfl, hlt, p'⟩, fun x H' y => hs i x H H' hlt p (w.yields i H x H' hlt q y)⟩
  · have e : i = n := by omega
    subst e
    exact .inl ⟨w.stops H q, hd H p⟩
theorem lockN {t : TE} {σ : L2.St} : ∀ (ds : List Addr) (us : List HO) (H : Hp) (Q : VK), All2 (fun d u => H d = some u ∧ Mut (some u)) ds us → ds.Nodup →
    (∀ (Hf : Hp) (Q' : VK), (∀ b, b ∉ ds → Hf b = H b) → All2 (fun d u => ∃ od, Hf d = some (.frz od u)) ds us → (∀ v D o, H D = none → Q v (upd H D o) → Q' v (upd Hf D o)) → t σ Hf Q') → tLockN ds.length t σ H Q
  | _, _, H, Q, .nil, _, k => k H Q (fun _ _ => rfl) .nil fun _ _ _ _ h => h
  | d :: ds, u :: us, H, Q, .cons ⟨e, m⟩ r, nd, k => by
    obtain ⟨n1, n2⟩ := List.nodup_cons.mp nd
    refine ⟨d, u, e, m, fun od => ?_⟩
    have r' : All2 (fun d' u' => upd H d (.frz od u) d' = some u' ∧ Mut (some u')) ds us := All2.imp r fun a b ha _ h => ⟨(upd_ne (show a ≠ d from fun z => n1 (z ▸ ha))).trans h.1, h.2⟩
    refine lockN ds us _ _ r' n2 fun Hf Q' h1 h2 h3 => ?_
    refine k Hf Q' (fun b hb => ?_) (.cons ⟨od, ?_⟩ h2) fun v D o hD hq => ?_
    · rw [List.mem_cons, not_or] at hb
      rw [h1 b hb.2, upd_ne hb.1]
    · rw [h1 d n1, upd_same]
    · have nD : D ≠ d := fun z => by rw [z, e] at hD; cases hD
      refine h3 v D o (by rw [upd_ne nD]; exact hD) ⟨?_, ?_⟩
      · rw [upd_ne nD.symm]
        exact upd_same
      · rw [upd_back e nD]
        exact hq
def LsAt (H0 H : Hp) (bps : List (Addr × List Addr)) (ls : List (List (List Int))) : Prop := All2 (fun q l => ChAt H q.1 q.2 l) bps ls ∧ bps.Pairwise (fun p q => ∀ x ∈ p.2, x ∉ q.2) ∧ ∀ q ∈ bps, H0 q.1 = none ∧ ∀ x ∈ q.2, H0 x = none
def colA (i : Nat) (bps : List (Addr × List Addr)) : List Addr := bps.map fun q => (q.2[i]?).getD 0
def colN (i : Nat) (ls : List (List (List Int))) : List (List Int) := ls.map fun l => (l[i]?).getD []
theorem col_get {H : Hp} {q : Addr × List Addr} {l : List (List Int)} {i : Nat} (h : ChAt H q.1 q.2 l) (hi : i < l.length) : q.2[i]? = some ((q.2[i]?).getD 0) ∧ DkAt H ((q.2[i]?).getD 0) ((l[i]?).getD []) := by
  obtain ⟨a, ha, e⟩ := h.2.get2 (List.getElem?_eq_getElem hi)
  rw [ha, List.getElem?_eq_getElem hi]
  exact ⟨rfl, e⟩
theorem col_all {H : Hp} {i : Nat} : ∀ {bps : List (Addr × List Addr)} {ls : List (List (List Int))}, All2 (fun q l => ChAt H q.1 q.2 l) bps ls → (∀ l ∈ ls, i < l.length) → All2 (fun d u => H d = some u ∧ Mut (some u)) (colA i bps) ((colN i ls).map fun l => HO.dK (keysD l))
  | _, _, .nil, _ => .nil
  | _, _, .cons r t, h => .cons ⟨(col_get r (h _ List.mem_cons_self)).2, trivial⟩ (col_all t fun l hl => h l (List.mem_cons_of_mem _ hl))
theorem col_nodup {H0 H : Hp} {i : Nat} {bps : List (Addr × List Addr)} {ls : List (List (List Int))} (h : LsAt H0 H bps ls) (hi : ∀ l ∈ ls, i < l.length) : (colA i bps).Nodup := by
  obtain ⟨A, P, _⟩ := h
  unfold colA List.Nodup
  rw [List.pairwise_map]
  refine List.Pairwise.imp_of_mem (fun {a b} ha hb hab z => ?_) P
  obtain ⟨l, hl, r⟩ := A.mem ha
  obtain ⟨m, hm, r2⟩ := A.mem hb
  have h1 := List.mem_of_getElem? (col_get r (hi l hl)).1
  have h2 := List.mem_of_getElem? (col_get r2 (hi m hm)).1
  rw [z] at h1
  exact hab _ h1 h2
theorem flat_len {N : Nat} : ∀ (L : List (List Int)), (∀ l ∈ L, l.length ≤ N) → L.flatten.length ≤ L.length * N
  | [], _ => by simp
  | x :: L, h => by
    have h1 := h x List.mem_cons_self
    have := flat_len L fun l hl => h l (List.mem_cons_of_mem _ hl)
    rw [List.flatten_cons, List.length_append, List.length_cons, Nat.add_mul, Nat.one_mul]
    omega
theorem col_small {s : Dsk} (ok : s.Ok) {i n : Nat} : ∀ l ∈ colN i (lotsUp s n), l.length ≤ 1000001 := by
  intro l hl
  obtain ⟨c, hc, rfl⟩ := List.mem_map.mp hl
  obtain ⟨j, _, _, rfl⟩ := mem_lotsUp.mp hc
  by_cases hi : i < s.sure.length
  · rw [choices_get hi]
    exact Nat.le_trans (len_ded _) (may_small ok j _)
  · rw [List.getElem?_eq_none (by rw [choices_len]; omega)]
    exact Nat.zero_le _
theorem every_small {s : Dsk} (ok : s.Ok) {n : Nat} (h : (lotsUp s n).length ≤ 10) : ∀ l ∈ everyN s.sure.length (lotsUp s n), l.length ≤ 16000000 := by
  intro l hl
  obtain ⟨r, _, rfl⟩ := List.mem_map.mp hl
  refine Nat.le_trans (len_ded _) (Nat.le_trans (flat_len _ (N := 1000001) ?_) ?_)
  · exact fun l hl => col_small (i := r) (n := n) ok l hl
  · rw [List.length_map]
    omega
theorem lots_succ (s : Dsk) (i : Nat) : lotsUp s (i + 1) = lotsUp s i ++ if fullLot s i = true then [choicesN s i] else [] := by
  unfold lotsUp
  rw [List.range_succ, List.filter_append, List.map_append]
  congr 1
  cases h : fullLot s i with
  | true => rw [List.filter_cons_of_pos h]; rfl
  | false => rw [List.filter_cons_of_neg (by rw [h]; exact Bool.false_ne_true)]; rfl
theorem every_get {m i : Nat} {ls : List (List (List Int))} (h : i < m) : (everyN m ls)[i]? = some (ded (colN i ls).flatten) := by
  unfold everyN
  rw [List.getElem?_map, List.getElem?_range h]
  rfl
theorem chs_same {H H' : Hp} (s : Same H H') {bps : List (Addr × List Addr)} {ls : List (List (List Int))} (h : All2 (fun (q : Addr × List Addr) l => ChAt H q.1 q.2 l) bps ls) : All2 (fun (q : Addr × List Addr) l => ChAt H' q.1 q.2 l) bps ls := h.imp fun _ _ _ _ e => e.same s
theorem che_of {H : Hp} : ∀ {bps : List (Addr × List Addr)} {ls : List (List (List Int))}, All2 (fun (q : Addr × List Addr) l => ChAt H q.1 q.2 l) bps ls → All2 (ChE H) (bps.map Prod.fst) ls
  | _, _, .nil => .nil
  | _, _, .cons r t => .cons ⟨_, r⟩ (che_of t)
def sp_count (K : PySem.W.Frag) : Sp := fun vs H Q E => ∃ (L : DL) (s : Dsk), vs = [.ref L.d] ∧ DiskAt K H L s ∧ s.Ok ∧
  (10 < (lotsUp s s.lots.length).length → ∀ H', Same H H' → E (.ref (He.ga K "TooMany")) none H') ∧ ((lotsUp s s.lots.length).length ≤ 10 → ∀ H', Same H H' → Q (.int (countN s)) H')
def t_count (K : PySem.W.Frag) (E : XK) : TS := (tSeq (tAsg (tLc (iEnum K (tCons (tFld K (tVar 0) "open_lots") tNil)) (gTup K 2 (gCons (gName 3) (gCons (gName 4) gNil))) (tTest (tOp (rNeE K) (tVar 4) (tLst tNil))) (tCall (sp_choices_of K) [] E0 (tCons (tVar 0) (tCons (tVar 3) tNil))) [3, 4]) (gName 1))
    (tSeq (tIfS (tTest (tOp xGt (tCB (xLen K) (tCons (tVar 1) tNil)) (tC (.int 10)))) (fun _ _ H => E (.ref (He.ga K "TooMany")) none H) tNext)
    (tSeq (tIfS (tTest (tOp (rEqE K) (tVar 1) (tLst tNil))) (tRet (tC (.int 1))) tNext)
    (tSeq (tAsg (tLc (iRng1 (tCons (tMeth (He.ga K "Disk") "rooms" (sp_Disk_rooms K) [] E0 (tVar 0) tNil) tNil)) (gName 5) tYes (tLocks (tDc2 (iList K (tVar 1)) (gName 3) tYes (iKeys (tOp (rIxL K) (tVar 3) (tVar 5))) (gName 6) tYes (tVar 6) (tC (.bl true)) [3, 6] [6])) [5]) (gName 2))
    (tRet (tCall (sp_union 10 K) [] E0 (tCons (tVar 2) (tCons (tVar 1) tNil))))))))
theorem len_count {K : PySem.W.Frag} (vs : List V) (H : Hp) (Q : VK) (E : XK) (h : sp_count K vs H Q E) : vs.length = (["disk"] : List Str).length := by
  unfold sp_count at h
  repeat (first | (obtain ⟨e, _⟩ := h; rw [e]; done) | (obtain ⟨e, _⟩ := h; rw [e]; rfl; done) | obtain ⟨_, h⟩ := h)
theorem pure_count {K : PySem.W.Frag} (pf : PF K) {vs : List V} {H : Hp} {Q : VK} {E : XK} (h : sp_count K vs H Q E) : t_count K E { nx := fun _ H' => Q .non H', rt := Q } (start ["disk", "lots", "every", "lot", "writes", "room", "number"] vs) H := by
  obtain ⟨L, s, rfl, h, ok, qe, q⟩ := h
  obtain ⟨dx, ho⟩ := h.ob
  have sz := ok.size
  have ll := h.lots.len
  have lz := ok.lots
  refine ⟨_, rfl, _, _, _, _, _, rfl, ho, pf.cl_Disk, pf.na_Disk_open_lots, rfl, L.lo, _, rfl, SqL.of h.lo, fun D hD => ?_⟩
  refine lc_it (walk_enum (K := K) (xs := L.lots.map V.ref)) (fun i H1 => Same H H1 ∧ ∃ bps : List (Addr × List Addr), H1 D = some (.lst ((bps.map Prod.fst).map V.ref)) ∧ LsAt H H1 bps (lotsUp s i) ∧ ∀ q ∈ bps, q.1 ≠ D ∧ ∀ x ∈ q.2, x ≠ D) ⟨same_upd hD, [], upd_same, ⟨.nil, .nil, fun q hq => by cases hq⟩, fun q hq => by cases hq⟩ (fun i H1 _ h1 => SqL.of (h1.1 _ _ h.lo)) ?_ ?_
  · rintro i v H1 _ hi ⟨s1, bps, e1, ⟨A1, P1, N1⟩, n1⟩ ⟨T, x, y, rfl, hT, rfl, hx, hy⟩
    rw [List.length_map, ll] at hi
    cases hx
    have hy : (L.lots.map V.ref)[i]? = some y := hy
    rw [List.getElem?_map] at hy
    obtain ⟨la, hla, rfl⟩ := Option.map_eq_some_iff.mp hy
    obtain ⟨lot, hlot, ts, elt, tt⟩ := h.lots.get hla
    have s2 := s1.trans (same_upd (o := .tup [V.int (i : Nat), V.ref la]) hT)
    have sT := same_upd (o := .tup [V.int (i : Nat), V.ref la]) hT
    generalize hHT : upd H1 T (.tup [V.int (i : Nat), V.ref la]) = H2 at s2 sT
    refine ⟨T, _, rfl, SqT.of (by rw [← hHT]; exact upd_same), rfl, _, _, rfl, _, _, rfl, rfl, rfl, ?_⟩
    refine ⟨_, rfl, of_decide_eq_true rfl, fun c hc => ⟨la, c, _, rfl, rfl, SqL.of (same_upd hc _ _ (s2 _ _ elt)), SqL.of upd_same, _, rfl, ?_⟩⟩
    have sc := same_upd (o := .lst []) hc
    generalize upd H2 c (.lst []) = H3 at sc ⊢
    have s3 := s2.trans sc
    have s13 := sT.trans sc
    have ef : (!(ts.map V.ref).isEmpty) = fullLot s i := by
      unfold fullLot
      rw [hlot]
      cases tt <;> rfl
    rw [ef]
    cases hf : fullLot s i with
    | false =>
      refine iteF ⟨s3, bps, s13 _ _ e1, ?_, n1⟩
      rw [lots_succ, hf, if_neg Bool.false_ne_true, List.append_nil]
      exact ⟨chs_same s13 A1, P1, N1⟩
    | true =>
      refine iteT ⟨_, rfl, _, rfl, L, s, i, rfl, h.same s3, ok, hi, fun a ps H4 s4 ha hps hch => ?_⟩
      have s14 := s13.trans s4
      have eD : H4 D = _ := s14 _ _ e1
      have eD3 : H3 D = _ := s13 _ _ e1
      have naD : a ≠ D := (ne_of_none eD3 ha).symm
      have npD : ∀ x ∈ ps, x ≠ D := fun x hx => (ne_of_none eD3 (hps x hx)).symm
      refine ⟨_, eD, sz_lt ?_, fun b o e => (upd_ne (ne_of_none e hD)).trans ((s3.trans s4) b o e), bps ++ [(a, ps)], ?_, ⟨?_, ?_, ?_⟩, ?_⟩
      · rw [List.length_map, List.length_map, A1.len]
        unfold lotsUp
        rw [List.length_map]
        refine Nat.le_trans (List.length_filter_le _ _) ?_
        rw [List.length_range]
        omega
      · rw [upd_same, List.map_append, List.map_append]
        rfl
      · rw [lots_succ, hf, if_pos rfl]
        refine All2.append (A1.imp fun q l hq _ e => ?_) (.one ?_)
        · obtain ⟨u1, u2⟩ := n1 q hq
          refine ⟨(upd_ne u1).trans (s14 _ _ e.1), e.2.imp fun p l hp _ e => ?_⟩
          exact (upd_ne (u2 p hp)).trans (s14 _ _ e)
        · exact ⟨(upd_ne naD).trans hch.1, hch.2.imp fun p l hp _ e => (upd_ne (npD p hp)).trans e⟩
      · rw [List.pairwise_append]
        refine ⟨P1, List.pairwise_singleton _ _, fun p hp q hq x hx => ?_⟩
        rw [List.mem_singleton] at hq
        subst hq
        intro hx2
        obtain ⟨l, _, r⟩ := A1.mem hp
        obtain ⟨m, _, r2⟩ := r.2.mem hx
        have := s13 _ _ r2
        rw [hps x hx2] at this
        cases this
      · intro q hq
        rcases List.mem_append.mp hq with z | z
        · exact N1 q z
        · rw [List.mem_singleton] at z
          subst z
          exact ⟨s3.free ha, fun x hx => s3.free (hps x hx)⟩
      · intro q hq
        rcases List.mem_append.mp hq with z | z
        · exact n1 q z
        · rw [List.mem_singleton] at z
          subst z
          exact ⟨naD, npD⟩
  · rintro H1 ⟨s1, bps, e1, hL, n1⟩
    rw [List.length_map, ll] at hL
    have hls : ∀ l ∈ lotsUp s s.lots.length, l.length = s.sure.length := fun l hl => by
      obtain ⟨j, _, _, rfl⟩ := mem_lotsUp.mp hl
      exact choices_len s j
    have q2 : (lotsUp s s.lots.length).length ≤ 10 → ∀ H', Same H H' → Q (.int (if lotsUp s s.lots.length = [] then 1 else unionN (everyN s.sure.length (lotsUp s s.lots.length)) (lotsUp s s.lots.length))) H' := q
    have sm := fun h10 => every_small ok (n := s.lots.length) h10
    have smc := fun i => col_small ok (i := i) (n := s.lots.length)
    generalize lotsUp s s.lots.length = ls at *
    have lb : bps.length = ls.length := hL.1.len
    refine ⟨_, rfl, _, _, rfl, .inl (SqL.of e1), _, _, rfl, rfl, _, rfl, ?_⟩
    rw [List.length_map, List.length_map, lb]
    by_cases h10 : 10 < ls.length
    · exact iteY (decide_eq_true (by omega)) (qe h10 H1 s1)
    refine iteN (decide_eq_false (by omega)) ?_
    have h10 : ls.length ≤ 10 := by omega
    refine ⟨_, rfl, of_decide_eq_true rfl, fun c hc => ⟨D, c, _, rfl, rfl, SqL.of (same_upd hc _ _ e1), SqL.of upd_same, _, rfl, ?_⟩⟩
    have s12 := same_upd (o := .lst []) hc
    generalize upd H1 c (.lst []) = H2 at s12 ⊢
    have s2 := s1.trans s12
    by_cases h0 : ls = []
    · have hb : bps = [] := List.length_eq_zero_iff.mp (by rw [lb, h0]; rfl)
      subst hb
      have := q2 h10 H2 s2
      rw [if_pos h0] at this
      exact iteT this
    have hb : bps ≠ [] := fun z => h0 (List.length_eq_zero_iff.mp (by rw [← lb, z]; rfl))
    refine iteN ?_ ?_
    · cases bps with
      | nil => exact (hb rfl).elim
      | cons x y => rfl
    have h2 := h.same s2
    obtain ⟨dx2, ho2⟩ := h2.ob
    refine ⟨_, rfl, L.d, dx2, _, rfl, ho2, rfl, L, s, rfl, h2, _, rfl, by omega, by omega, fun D2 hD2 => ?_⟩
    rw [Int.toNat_natCast]
    have A2 := chs_same s12 hL.1
    have eD2 := s12 _ _ e1
    refine lc_range (fun i H3 => Same H2 H3 ∧ ∃ rs : List Addr, H3 D2 = some (.lst (rs.map V.ref)) ∧ All2 (DkAt H3) rs ((everyN s.sure.length ls).take i) ∧ ∀ p ∈ rs, p ≠ D2) ⟨same_upd hD2, [], upd_same, .nil, fun p hp => by cases hp⟩ ?_ ?_
    · rintro i H3 hi ⟨s3, rs, e3, B3, m3⟩
      rw [Int.zero_add]
      have A3 := chs_same s3 A2
      have hil : ∀ l ∈ ls, i < l.length := fun l hl => by rw [hls l hl]; exact hi
      refine ⟨rfl, yesY ⟨(colA i bps).length, ?_⟩⟩
      refine lockN _ _ H3 _ (col_all A3 hil) (col_nodup ⟨hL.1, hL.2⟩ hil) fun Hf Q' k1 k2 k3 => ?_
      have kl : ∀ {a : Addr} {xs : List V}, H3 a = some (.lst xs) → Hf a = some (.lst xs) := fun {a xs} e => by
        rw [k1 a fun z => ?_]
        · exact e
        · obtain ⟨u, hu, e2, _⟩ := (col_all A3 hil).mem z
          rw [e] at e2
          obtain ⟨l, _, rfl⟩ := List.mem_map.mp hu
          cases e2
      have eDf := kl (s3 _ _ eD2)
      refine ⟨_, rfl, D, rfl, ⟨_, SqL.of eDf⟩, fun D3 hD3 => ?_⟩
      have nf : ∀ {a : Addr} {o : HO}, Hf a = some o → ∀ {u : HO}, upd Hf D3 u a = some o := fun {a o} e {u} => (upd_ne (ne_of_none e hD3)).trans e
      refine w_it (walk_list (K := K)) (fun j H4 => H4 = upd Hf D3 (.dK (keysD (((colN i ls).take j).flatten.foldl addK [])))) rfl (fun j H4 _ e => by rw [e]; exact SqL.of (nf eDf)) ?_ ?_
      · rintro j x H4 _ hj rfl ⟨rfl, hx⟩
        rw [List.getElem?_map] at hx
        obtain ⟨qa, hqa, rfl⟩ := Option.map_eq_some_iff.mp hx
        rw [List.getElem?_map] at hqa
        obtain ⟨qq, hqq, rfl⟩ := Option.map_eq_some_iff.mp hqa
        obtain ⟨l, hl, cl⟩ := A3.get hqq
        have hlm := List.mem_of_getElem? hl
        obtain ⟨g1, g2⟩ := col_get cl (hil l hlm)
        have hcj : (colA i bps)[j]? = some ((qq.2[i]?).getD 0) := by
          unfold colA
          rw [List.getElem?_map, hqq]
          rfl
        have hnj : (colN i ls)[j]? = some ((l[i]?).getD []) := by
          unfold colN
          rw [List.getElem?_map, hl]
          rfl
        obtain ⟨u, hu, od, ed⟩ := k2.get hcj
        rw [List.getElem?_map, hnj] at hu
        cases hu
        have hsz := smc i _ (List.mem_of_getElem? hnj)
        have hszj := flat_len ((colN i ls).take j) (N := 1000001) fun l hl => smc i l (List.mem_of_mem_take hl)
        have hlj : ((colN i ls).take j).length ≤ 10 := by
          rw [List.length_take]
          unfold colN
          rw [List.length_map]
          omega
        generalize (l[i]?).getD [] = li at *
        generalize (qq.2[i]?).getD 0 = di at *
        refine ⟨rfl, yesY ?_⟩
        refine ⟨_, rfl, _, rfl, qq.1, _, ((i : Nat) : Int), .ref di, rfl, rfl, SqL.of (nf (kl cl.1)), atI_of ?_, di, od, rfl, .inl ⟨_, nf ed, ?_⟩⟩
        · rw [List.getElem?_map, g1]
          rfl
        refine w_it walk_keys (fun k H5 => H5 = upd Hf D3 (.dK (keysD ((((colN i ls).take j).flatten ++ li.take k).foldl addK [])))) (by rw [List.take_zero, List.append_nil]) (fun k H5 _ e => by rw [e]; exact nf ed) ?_ ?_
        · rintro k x H5 _ hk rfl ⟨rfl, kk, v, hk2, rfl⟩
          rw [keys_len] at hk
          have hk3 : (keysD li)[k]? = some ((Sum.inl li[k] : Key), V.bl true) := by
            unfold keysD
            rw [List.getElem?_map, List.getElem?_eq_getElem hk]
            rfl
          rw [hk3] at hk2
          cases hk2
          refine ⟨rfl, yesY ⟨_, rfl, _, .inl li[k], rfl, upd_same, ?_, ?_⟩⟩
          · rw [keys_len]
            have := len_fold (((colN i ls).take j).flatten ++ li.take k) []
            rw [List.length_append, List.length_take] at this
            exact sz_lt (by simp at *; omega)
          · rw [upd_upd, keys_put, take_one (List.getElem?_eq_getElem hk), ← List.append_assoc, List.foldl_append (l' := [li[k]])]
            rfl
        · rintro H5 rfl
          rw [keys_len, List.take_length, take_one hnj, List.flatten_append]
          simp
      · rintro H4 rfl
        have hD3' : H3 D3 = none := by
          by_cases z : D3 ∈ colA i bps
          · obtain ⟨u, _, od, e⟩ := k2.mem z
            rw [hD3] at e
            cases e
          · rw [← k1 D3 z]
            exact hD3
        have hfull : (colN i ls).take ((bps.map Prod.fst).map V.ref).length = colN i ls := by
          rw [List.length_map, List.length_map, lb]
          refine List.take_of_length_le ?_
          unfold colN
          rw [List.length_map]
          omega
        rw [hfull]
        refine k3 (.ref D3) D3 _ hD3' ?_
        have nD : D3 ≠ D2 := (ne_of_none e3 hD3').symm
        have sD := same_upd (o := .dK (keysD ((colN i ls).flatten.foldl addK []))) hD3'
        refine ⟨_, sD _ _ e3, sz_lt (by rw [List.length_map, B3.len, List.length_take, every_len]; omega), fun b o e => (upd_ne (ne_of_none e hD2)).trans ((s3.trans sD) b o e), rs ++ [D3], by rw [upd_same, List.map_append]; rfl, ?_, fun p hp => ?_⟩
        · rw [take_one (every_get hi)]
          refine All2.append (B3.imp fun p l hp _ e => (upd_ne (m3 p hp)).trans (sD _ _ e)) (.one ?_)
          show upd _ _ _ D3 = _
          rw [upd_ne nD, upd_same]
          rfl
        · rcases List.mem_append.mp hp with z | z
          · exact m3 p z
          · rw [List.mem_singleton] at z
            subst z
            exact nD
    · rintro H3 ⟨s3, rs, e3, B3, m3⟩
      rw [show (everyN s.sure.length ls).take s.sure.length = everyN s.sure.length ls from List.take_of_length_le (by rw [every_len]; omega)] at B3
      have A3 := chs_same s3 A2
      refine ⟨_, rfl, _, rfl, D2, rs, everyN s.sure.length ls, D, bps.map Prod.fst, ls, rfl, h10, ⟨e3, B3⟩, s3 _ _ eD2, ?_, by rw [every_len]; omega, sm h10, fun l hl => by rw [every_len, hls l hl], fun H4 s4 => ?_⟩
      · exact che_of A3
      · have := q2 h10 H4 ((s2.trans s3).trans s4)
        rw [if_neg h0] at this
        exact this

/-! ### all states, by going through them -/
def RowAt (H : Hp) (r : Addr) (x : List Int) : Prop := H r = some (.lst (x.map V.int))
def TupN (H : Hp) (r : Addr) (x : List Int) : Prop := H r = some (.tup (x.map V.int))
def longN (xs : List (List Int)) (ns : List Int) : List (List Int) := xs.flatMap fun x => ns.map fun n => x ++ [n]
theorem long_len (xs : List (List Int)) (ns : List Int) : (longN xs ns).length = xs.length * ns.length := by
  unfold longN
  induction xs with
  | nil => simp
  | cons x l ih => rw [List.flatMap_cons, List.length_append, ih, List.length_map, List.length_cons, Nat.add_mul, Nat.one_mul, Nat.add_comm]
theorem mem_long {xs : List (List Int)} {ns : List Int} {y : List Int} : y ∈ longN xs ns ↔ ∃ x n, x ∈ xs ∧ n ∈ ns ∧ y = x ++ [n] := by
  unfold longN
  rw [List.mem_flatMap]
  constructor
  · rintro ⟨x, hx, h⟩
    obtain ⟨n, hn, rfl⟩ := List.mem_map.mp h
    exact ⟨x, n, hx, hn, rfl⟩
  · rintro ⟨x, n, hx, hn, rfl⟩
    exact ⟨x, hx, List.mem_map.mpr ⟨n, hn, rfl⟩⟩
theorem long_take {xs : List (List Int)} {ns : List Int} {i : Nat} {x : List Int} (h : xs[i]? = some x) : longN (xs.take (i + 1)) ns = longN (xs.take i) ns ++ ns.map fun n => x ++ [n] := by
  unfold longN
  rw [take_one h, List.flatMap_append]
  simp
theorem row_same {H H' : Hp} (s : Same H H') {rs : List Addr} {xs : List (List Int)} (h : All2 (RowAt H) rs xs) : All2 (RowAt H') rs xs := h.imp fun _ _ _ _ e => s _ _ e
def sp__law_longer (K : PySem.W.Frag) : Sp := fun vs H Q _ => ∃ (a : Addr) (rs : List Addr) (xs : List (List Int)) (b : Addr) (ns : List Int), vs = [.ref a, .ref b] ∧ H a = some (.lst (rs.map V.ref)) ∧ All2 (RowAt H) rs xs ∧ H b = some (.lst (ns.map V.int)) ∧ xs.length ≤ 100000 ∧ ns.length ≤ 100 ∧ (∀ x ∈ xs, x.length ≤ 1000) ∧
  ∀ p ps H', Same H H' → H p = none → H' p = some (.lst (ps.map V.ref)) → All2 (RowAt H') ps (longN xs ns) → Q (.ref p) H'
def t__law_longer (K : PySem.W.Frag) : TS := (tSeq (tAsg (tLst tNil) (gName 2))
    (tSeq (tFor (iList K (tVar 0)) (gName 3) (tFor (iList K (tVar 1)) (gName 4) (tDrop (tBM K "list" rAppend (tVar 2) (tCons (tOp rCat (tVar 3) (tLst (tCons (tVar 4) tNil))) tNil)))))
    (tRet (tVar 2))))
theorem len__law_longer {K : PySem.W.Frag} (vs : List V) (H : Hp) (Q : VK) (E : XK) (h : sp__law_longer K vs H Q E) : vs.length = (["_law_rows", "_law_numbers"] : List Str).length := by
  unfold sp__law_longer at h
  repeat (first | (obtain ⟨e, _⟩ := h; rw [e]; done) | (obtain ⟨e, _⟩ := h; rw [e]; rfl; done) | obtain ⟨_, h⟩ := h)
theorem pure__law_longer {K : PySem.W.Frag} (pf : PF K) {vs : List V} {H : Hp} {Q : VK} {E : XK} (h : sp__law_longer K vs H Q E) : t__law_longer K { nx := fun _ H' => Q .non H', rt := Q } (start ["_law_rows", "_law_numbers", "_law_found", "_law_row", "_law_number_here"] vs) H := by
  obtain ⟨a, rs, xs, b, ns, rfl, ea, Aa, eb, z1, z2, z3, q⟩ := h
  have la := Aa.len
  refine ⟨of_decide_eq_true rfl, fun c hc => ?_⟩
  refine ⟨_, rfl, a, rfl, ⟨_, SqL.of (same_upd hc _ _ ea)⟩, ?_⟩
  refine for_list (xs := rs.map V.ref) (fun i σ H1 => Same H H1 ∧ (∃ ps : List Addr, H1 c = some (.lst (ps.map V.ref)) ∧ All2 (RowAt H1) ps (longN (xs.take i) ns) ∧ ∀ p ∈ ps, p ≠ c) ∧ ∃ v3 v4, σ = [some (.ref a), some (.ref b), some (.ref c), v3, v4])
    ⟨same_upd hc, ⟨[], upd_same, .nil, fun p hp => by cases hp⟩, _, _, rfl⟩ (fun i σ H1 _ h1 => SqL.of (h1.1 _ _ ea)) ?_ ?_
  · rintro i x σ H1 hx ⟨s1, hps, v3, v4, rfl⟩
    rw [List.getElem?_map] at hx
    obtain ⟨r, hr, rfl⟩ := Option.map_eq_some_iff.mp hx
    obtain ⟨x, hx, ex⟩ := Aa.get hr
    have hi : i < xs.length := (List.getElem?_eq_some_iff.mp hx).1
    have ex0 : H r = some (.lst (x.map V.int)) := ex
    have zx := z3 x (List.mem_of_getElem? hx)
    refine ⟨_, rfl, b, rfl, ⟨_, SqL.of (s1 _ _ eb)⟩, ?_⟩
    refine for_list (xs := ns.map V.int) (fun j σ H2 => Same H H2 ∧ (∃ ps : List Addr, H2 c = some (.lst (ps.map V.ref)) ∧ All2 (RowAt H2) ps (longN (xs.take i) ns ++ (ns.take j).map fun n => x ++ [n]) ∧ ∀ p ∈ ps, p ≠ c) ∧ ∃ v4, σ = [some (.ref a), some (.ref b), some (.ref c), some (.ref r), v4])
      ⟨s1, by rw [List.take_zero, List.map_nil, List.append_nil]; exact hps, _, rfl⟩ (fun j σ H2 _ h2 => SqL.of (h2.1 _ _ eb)) ?_ ?_
    · rintro j y σ H2 hy ⟨s2, ⟨ps, e2, A2, n2⟩, v4, rfl⟩
      rw [List.getElem?_map] at hy
      obtain ⟨n, hn, rfl⟩ := Option.map_eq_some_iff.mp hy
      have hj : j < ns.length := (List.getElem?_eq_some_iff.mp hn).1
      refine ⟨_, rfl, .inl ⟨rfl, _, SqL.of e2⟩, _, rfl, _, rfl, of_decide_eq_true rfl, fun w hw => ?_⟩
      have sw := same_upd (o := .lst [V.int n]) hw
      have ew : upd H2 w (.lst [V.int n]) w = some (.lst [V.int n]) := upd_same
      generalize upd H2 w (.lst [V.int n]) = H3 at sw ew ⊢
      have s3 := s2.trans sw
      refine ⟨r, w, _, _, rfl, rfl, s3 _ _ ex0, ew, ?_, fun d hd => ?_⟩
      · rw [List.length_map, List.length_singleton]
        exact sz_ok (by omega)
      have sd := same_upd (o := .lst (x.map V.int ++ [V.int n])) hd
      have ed : upd H3 d (.lst (x.map V.int ++ [V.int n])) d = some (.lst (x.map V.int ++ [V.int n])) := upd_same
      have hdc : d ≠ c := (ne_of_none (sw _ _ e2) hd).symm
      generalize upd H3 d (.lst (x.map V.int ++ [V.int n])) = H4 at sd ed ⊢
      have s24 := sw.trans sd
      have lps := A2.len
      refine ⟨c, _, _, rfl, rfl, s24 _ _ e2, ?_, ?_⟩
      · rw [List.length_map, lps, List.length_append, List.length_map, long_len, List.length_take, List.length_take]
        refine sz_lt ?_
        have : min i xs.length * ns.length ≤ 100000 * 100 := Nat.mul_le_mul (by omega) z2
        omega
      · refine ⟨upd_new (s3.trans sd) hc, ⟨ps ++ [d], by rw [upd_same, List.map_append]; rfl, ?_, ?_⟩, _, rfl⟩
        · rw [take_one hn, List.map_append, ← List.append_assoc]
          refine All2.append (A2.imp fun p l hp _ e => (upd_ne (n2 p hp)).trans (s24 _ _ e)) (.one ?_)
          refine (upd_ne hdc).trans (ed.trans ?_)
          rw [List.map_append]
          rfl
        · intro p hp
          rcases List.mem_append.mp hp with z | z
          · exact n2 p z
          · rw [List.mem_singleton] at z
            subst z
            exact hdc
    · rintro σ H2 ⟨s2, hps2, v4, rfl⟩
      rw [List.length_map, List.take_length, ← long_take hx] at hps2
      exact ⟨s2, hps2, _, _, rfl⟩
  · rintro σ H1 ⟨s1, ⟨ps, e1, A1, n1⟩, v3, v4, rfl⟩
    rw [List.length_map, la, List.take_length] at A1
    exact ⟨_, rfl, q c ps H1 s1 hc e1 A1⟩
theorem inc_len {hi : Int} : ∀ {ms : List Int} {lo : Int}, ms.Pairwise (· < ·) → (∀ k ∈ ms, lo ≤ k ∧ k ≤ hi) → ms.length ≤ (hi + 1 - lo).toNat
  | [], _, _, _ => Nat.zero_le _
  | k :: ms, lo, hp, h => by
    obtain ⟨h1, h2⟩ := List.pairwise_cons.mp hp
    have hk := h k List.mem_cons_self
    have := inc_len (ms := ms) (lo := k + 1) h2 fun j hj => ⟨by have := h1 j hj; omega, (h j (List.mem_cons_of_mem _ hj)).2⟩
    rw [List.length_cons]
    omega
/-- numbers of a disk are small -/
def Dsk.Sml (s : Dsk) : Prop := (∀ x ∈ s.sure, x.natAbs ≤ 2) ∧ (∀ lot ∈ s.lots, ∀ p ∈ lot, p.2.natAbs ≤ 2) ∧ s.lots.length ≤ 300 ∧ s.sure.length ≤ 5 ∧ s.lots.flatten.length ≤ 1000
theorem with_sml {s : Dsk} (h : s.Sml) (i : Nat) : ∀ x ∈ s.with_ i, x.natAbs ≤ 2 := by
  refine setP_all _ h.1 fun p hp => ?_
  obtain ⟨lot, hl, hq⟩ := List.mem_flatten.mp hp
  exact h.2.1 lot (List.mem_of_mem_take hl) p hq
theorem may_sml {s : Dsk} (h : s.Sml) (lot : Nat) (r : Int) : (∀ x ∈ mayHave s lot r, x.natAbs ≤ 2) ∧ (mayHave s lot r).length ≤ 1001 := by
  unfold mayHave
  constructor
  · intro x hx
    rcases List.mem_cons.mp hx with rfl | hx
    · cases e : (s.with_ lot)[r.toNat]? with
      | none => exact Nat.zero_le _
      | some y => exact with_sml h lot y (List.mem_of_getElem? e)
    · obtain ⟨p, hp, rfl⟩ := List.mem_map.mp hx
      have hp := (List.mem_filter.mp hp).1
      cases e : s.lots[lot]? with
      | none => rw [e] at hp; cases hp
      | some w => rw [e] at hp; exact h.2.1 w (List.mem_of_getElem? e) p hp
  · rw [List.length_cons, List.length_map]
    refine Nat.succ_le_succ (Nat.le_trans (List.length_filter_le _ _) ?_)
    cases e : s.lots[lot]? with
    | none => exact Nat.zero_le _
    | some w =>
      refine Nat.le_trans ?_ h.2.2.2.2
      obtain ⟨l1, l2, e⟩ := List.append_of_mem (List.mem_of_getElem? e)
      conv => rhs; rw [e, List.flatten_append, List.length_append, List.flatten_cons, List.length_append]
      show w.length ≤ _
      omega
def keysT (l : List (List Int)) : List (List Key × V) := l.map fun x => (x.map Sum.inl, V.bl true)
theorem inl_inj {x y : List Int} (h : (x.map Sum.inl : List Key) = y.map Sum.inl) : x = y := by
  induction x generalizing y with
  | nil => cases y with
    | nil => rfl
    | cons _ _ => cases h
  | cons a x ih => cases y with
    | nil => cases h
    | cons b y =>
      rw [List.map_cons, List.map_cons] at h
      obtain ⟨h1, h2⟩ := List.cons.inj h
      rw [Sum.inl.inj h1, ih h2]
theorem keysT_val : ∀ (l : List (List Int)) (n : List Int), valV (keysT l) (n.map Sum.inl : List Key) = if n ∈ l then some (V.bl true) else none
  | [], n => rfl
  | x :: l, n => by
    rw [show keysT (x :: l) = ((x.map Sum.inl : List Key), V.bl true) :: keysT l from rfl]
    by_cases e : x = n
    · subst e
      rw [valV_pos rfl, if_pos List.mem_cons_self]
    · rw [valV_neg (by intro z; exact e (inl_inj z)), keysT_val l n]
      have : n ∈ x :: l ↔ n ∈ l := by
        rw [List.mem_cons]
        exact ⟨fun h => h.resolve_left fun z => e z.symm, .inr⟩
      by_cases h : n ∈ l
      · rw [if_pos h, if_pos (this.mpr h)]
      · rw [if_neg h, if_neg fun z => h (this.mp z)]
theorem keysT_put (l : List (List Int)) (n : List Int) : putK (keysT l) (n.map Sum.inl : List Key) (V.bl true) = keysT (addK l n) := by
  unfold addK
  by_cases h : n ∈ l
  · rw [if_pos h]
    unfold putK
    rw [valV_any, keysT_val, if_pos h, if_pos (show (some (V.bl true)).isSome = true from rfl)]
    unfold keysT
    rw [List.map_map]
    refine List.map_congr_left fun x _ => ?_
    show (if (x.map Sum.inl : List Key) = n.map Sum.inl then _ else _) = _
    split <;> rfl
  · rw [if_neg h, putK_new _ (by rw [keysT_val, if_neg h])]
    unfold keysT
    rw [List.map_append]
    rfl
theorem isKeys_tups {H : Hp} : ∀ {acc : List (List Int)} {bs : List Addr}, IsKeys H (keysT acc) bs → All2 (TupN H) bs acc
  | [], _, .nil => .nil
  | x :: acc, _ :: _, .cons r t => by
    refine .cons ?_ (isKeys_tups t)
    unfold TupN
    have r : H _ = some (.tup ((x.map Sum.inl : List Key).map kV)) := r
    rw [r, List.map_map]
    rfl
/-- the first rooms of a state that a lot can leave -/
def upTo (s : Dsk) (lot r : Nat) (x : List Int) : Prop := x.length = r ∧ ∀ (k : Nat) (y : Int), x[k]? = some y → y ∈ mayHave s lot ((k : Nat) : Int)
theorem upTo_snoc {s : Dsk} {lot r : Nat} {x : List Int} : upTo s lot (r + 1) x ↔ ∃ x' n, upTo s lot r x' ∧ n ∈ mayHave s lot ((r : Nat) : Int) ∧ x = x' ++ [n] := by
  constructor
  · rintro ⟨h1, h2⟩
    refine ⟨x.take r, x[r]'(by omega), ⟨by rw [List.length_take]; omega, fun k y hy => ?_⟩, h2 r _ (List.getElem?_eq_getElem _), ?_⟩
    · rw [List.getElem?_take] at hy
      split at hy
      · exact h2 k y hy
      · cases hy
    · rw [← take_one (List.getElem?_eq_getElem (by omega)), List.take_of_length_le (by omega)]
  · rintro ⟨x', n, ⟨h1, h2⟩, hn, rfl⟩
    refine ⟨by rw [List.length_append, h1]; rfl, fun k y hy => ?_⟩
    rw [List.getElem?_append] at hy
    split at hy
    · exact h2 k y hy
    · rename_i hk
      have : k = r := by
        have := (List.getElem?_eq_some_iff.mp hy).1
        rw [List.length_singleton] at this
        omega
      subst this
      rw [h1, Nat.sub_self] at hy
      cases hy
      exact hn
theorem upTo_all {s : Dsk} {lot : Nat} {x : List Int} : upTo s lot s.sure.length x ↔ x.length = s.sure.length ∧ goodLot s x lot = true := by
  rw [good_iff]
  exact Iff.rfl
def sp__law_states (K : PySem.W.Frag) : Sp := fun vs H Q _ => ∃ (O : OL) (s : Dsk), vs = [.ref O.o] ∧ OwnAt H O s ∧ s.Ok ∧ s.Sml ∧
  ∀ p ts xs H', Same H H' → H p = none → H' p = some (.lst (ts.map V.ref)) → All2 (TupN H') ts xs → xs.Nodup → (∀ x, x ∈ xs ↔ x.length = s.sure.length ∧ ∃ lot, lot < s.lots.length ∧ goodLot s x lot = true) → xs.length ≤ 1000000 → Q (.ref p) H'
def t__law_states (K : PySem.W.Frag) : TS := (tSeq (tAsg tDNewT (gName 1))
    (tSeq (tFor (iRng1 (tCons (tCB (xLen K) (tCons (tDGet (tVar 0) (tC (.str "lots"))) tNil)) tNil)) (gName 2) (tSeq (tAsg (tLst (tCons (tLst tNil) tNil)) (gName 3))
    (tSeq (tFor (iRng1 (tCons (tCB (xLen K) (tCons (tDGet (tVar 0) (tC (.str "sure"))) tNil)) tNil)) (gName 4) (tAsg (tCall (sp__law_longer K) [] E0 (tCons (tVar 3) (tCons (tSortSet K (tCall (sp__law_may_have K) [] E0 (tCons (tVar 0) (tCons (tVar 2) (tCons (tVar 4) tNil))))) tNil))) (gName 3)))
    (tFor (iList K (tVar 3)) (gName 5) (sDPut (tVar 1) (tCB (xTuple K) (tCons (tVar 5) tNil)) (tC (.bl true)))))))
    (tRet (tCB rListT (tCons (tVar 1) tNil)))))
theorem len__law_states {K : PySem.W.Frag} (vs : List V) (H : Hp) (Q : VK) (E : XK) (h : sp__law_states K vs H Q E) : vs.length = (["_law_own"] : List Str).length := by
  unfold sp__law_states at h
  repeat (first | (obtain ⟨e, _⟩ := h; rw [e]; done) | (obtain ⟨e, _⟩ := h; rw [e]; rfl; done) | obtain ⟨_, h⟩ := h)
theorem pure__law_states {K : PySem.W.Frag} (pf : PF K) {vs : List V} {H : Hp} {Q : VK} {E : XK} (h : sp__law_states K vs H Q E) : t__law_states K { nx := fun _ H' => Q .non H', rt := Q } (start ["_law_own", "_law_found", "_law_lot", "_law_some", "_law_room", "_law_one"] vs) H := by
  obtain ⟨O, s, rfl, h, ok, sml, q⟩ := h
  have sz := ok.size
  have ll := h.lots.len
  have lz := sml.2.2.1
  have l5 := sml.2.2.2.1
  intro d hd
  have s0 := same_upd (o := .dT []) hd
  have h0 := h.same s0
  refine ⟨_, rfl, O.o, _, rfl, h0.getL, _, _, rfl, .inl (SqL.of h0.lo), _, rfl, by omega, by rw [List.length_map, h0.lots.len]; omega, ?_⟩
  rw [List.length_map, ll, Int.toNat_natCast]
  refine for_range (fun i σ H1 => Same H H1 ∧ (∃ acc : List (List Int), H1 d = some (.dT (keysT acc)) ∧ acc.Nodup ∧ (∀ x, x ∈ acc ↔ x.length = s.sure.length ∧ ∃ lot, lot < i ∧ goodLot s x lot = true) ∧ acc.length ≤ i * 3125) ∧ ∃ v2 v3 v4 v5, σ = [some (.ref O.o), some (.ref d), v2, v3, v4, v5])
    ⟨s0, ⟨[], upd_same, List.nodup_nil, fun x => ⟨fun z => (by cases z), fun ⟨_, j, z, _⟩ => (by omega)⟩, by simp⟩, _, _, _, _, rfl⟩ ?_ ?_
  · rintro i σ H1 hi ⟨s1, ⟨acc, e1, nd1, m1, z1⟩, v2, v3, v4, v5, rfl⟩
    rw [Int.zero_add]
    refine ⟨of_decide_eq_true rfl, fun w hw => ?_⟩
    have sw := same_upd (o := .lst []) hw
    have ew : upd H1 w (.lst []) w = some (.lst []) := upd_same
    generalize upd H1 w (.lst []) = H2 at sw ew ⊢
    refine ⟨of_decide_eq_true rfl, fun r0 hr0 => ?_⟩
    have sr := same_upd (o := .lst [V.ref w]) hr0
    have er : upd H2 r0 (.lst [V.ref w]) r0 = some (.lst [V.ref w]) := upd_same
    generalize upd H2 r0 (.lst [V.ref w]) = H3 at sr er ⊢
    have s3 := (s1.trans sw).trans sr
    have h3 := h.same s3
    refine ⟨_, rfl, O.o, _, rfl, h3.getS, _, _, rfl, .inl (SqL.of h3.ls), _, rfl, by omega, by rw [List.length_map]; omega, ?_⟩
    rw [List.length_map, Int.toNat_natCast]
    refine for_range (fun r σ H4 => Same H H4 ∧ H4 d = some (.dT (keysT acc)) ∧ (∃ (a : Addr) (ps : List Addr) (xs : List (List Int)), σ = [some (.ref O.o), some (.ref d), some (.int (i : Nat)), some (.ref a), σ[4]?.getD none, v5] ∧ H4 a = some (.lst (ps.map V.ref)) ∧ All2 (RowAt H4) ps xs ∧ (∀ x, x ∈ xs ↔ upTo s i r x) ∧ xs.length ≤ 5 ^ r))
      ⟨s3, sr _ _ (sw _ _ e1), r0, [w], [[]], rfl, er, .one (sr _ _ ew), fun x => ?_, Nat.le_refl _⟩ ?_ ?_
    · rw [List.mem_singleton]
      constructor
      · rintro rfl
        exact ⟨rfl, fun k y hy => by simp at hy⟩
      · rintro ⟨hx, _⟩
        exact List.length_eq_zero_iff.mp hx
    · rintro r σ H4 hr ⟨s4, e4, a, ps, xs, es, ea, Aa, ma, za⟩
      rw [es]
      rw [Int.zero_add]
      have h4 := h.same s4
      have z5 : 5 ^ r ≤ 625 := Nat.le_trans (Nat.pow_le_pow_right (by decide) (show r ≤ 4 by omega)) (by decide)
      refine ⟨_, rfl, _, rfl, _, rfl, _, rfl, O, s, i, ((r : Nat) : Int), rfl, h4, ok, hi, by omega, by omega, fun m H5 hm s5 e5 => ?_⟩
      refine ⟨m, mayHave s i ((r : Nat) : Int), [-2, -1, 0, 1, 2], rfl, SqL.of e5, Nat.le_trans (may_sml sml i _).2 (by decide), fun k hk => ?_, by decide, fun ms b H6 hms hin hb s6 e6 => ?_⟩
      · have := (may_sml sml i _).1 k hk
        simp only [List.mem_cons, List.not_mem_nil, or_false]
        omega
      have s46 := s5.trans s6
      have zm : ms.length ≤ 5 := by
        have := inc_len (lo := -2) (hi := 2) hms fun k hk => by
          have := (may_sml sml i _).1 k ((hin k).mp hk)
          omega
        simpa using this
      refine ⟨a, ps, xs, b, ms, rfl, s46 _ _ ea, row_same s46 Aa, e6, by omega, by omega, fun x hx => by rw [((ma x).mp hx).1]; omega, fun p qs H7 s7 hp ep Ap => ?_⟩
      refine ⟨(s4.trans s46).trans s7, (s46.trans s7) _ _ e4, p, qs, longN xs ms, rfl, ep, Ap, fun x => ?_, ?_⟩
      · rw [mem_long, upTo_snoc]
        constructor
        · rintro ⟨x', n, h1, h2, rfl⟩
          exact ⟨x', n, (ma x').mp h1, (hin n).mp h2, rfl⟩
        · rintro ⟨x', n, h1, h2, rfl⟩
          exact ⟨x', n, (ma x').mpr h1, (hin n).mpr h2, rfl⟩
      · rw [long_len, Nat.pow_succ]
        exact Nat.mul_le_mul za zm
    · rintro σ H4 ⟨s4, e4, a, ps, xs, es, ea, Aa, ma, za⟩
      rw [es]
      have z5 : xs.length ≤ 3125 := Nat.le_trans za (Nat.le_trans (Nat.pow_le_pow_right (by decide) l5) (by decide))
      refine ⟨_, rfl, a, rfl, ⟨_, SqL.of ea⟩, ?_⟩
      refine for_list (xs := ps.map V.ref) (fun j σ H5 => Same H H5 ∧ (∀ b o, H4 b = some o → b ≠ d → H5 b = some o) ∧ H5 d = some (.dT (keysT ((xs.take j).foldl addK acc))) ∧ ∃ v4 v5, σ = [some (.ref O.o), some (.ref d), some (.int (i : Nat)), some (.ref a), v4, v5])
        ⟨s4, fun b o e _ => e, e4, _, _, rfl⟩ (fun j σ H5 _ h5 => SqL.of (h5.2.1 _ _ ea fun z => by rw [z, e4] at ea; cases ea)) ?_ ?_
      · rintro j x σ H5 hx ⟨s5, k5, e5, v4, v5, rfl⟩
        rw [List.getElem?_map] at hx
        obtain ⟨r, hr, rfl⟩ := Option.map_eq_some_iff.mp hx
        obtain ⟨x, hx, ex⟩ := Aa.get hr
        have ex0 : H4 r = some (.lst (x.map V.int)) := ex
        refine ⟨_, rfl, _, rfl, r, _, rfl, .inl ⟨SqL.of (k5 _ _ ex0 fun z => by rw [z, e4] at ex0; cases ex0), fun t ht => ?_⟩⟩
        have st := same_upd (o := .tup (x.map V.int)) ht
        have et : upd H5 t (.tup (x.map V.int)) t = some (.tup ((x.map Sum.inl : List Key).map kV)) := by
          rw [upd_same, List.map_map]
          rfl
        generalize upd H5 t (.tup (x.map V.int)) = H6 at st et ⊢
        refine ⟨d, _, rfl, DPut.t (st _ _ e5) et ?_, ?_⟩
        · unfold keysT
          rw [List.length_map]
          have := len_fold (xs.take j) acc
          rw [List.length_take] at this
          exact sz_lt (by omega)
        · refine ⟨upd_new (s5.trans st) hd, fun b o e n => (upd_ne n).trans (st _ _ (k5 b o e n)), ?_, _, _, rfl⟩
          rw [upd_same, keysT_put, take_one hx, List.foldl_append]
          rfl
      · rintro σ H5 ⟨s5, k5, e5, v4, v5, rfl⟩
        rw [List.length_map, Aa.len, List.take_length] at e5
        obtain ⟨f1, f2⟩ := fold_addK xs acc nd1
        refine ⟨s5, ⟨_, e5, f1, fun x => ?_, ?_⟩, _, _, _, _, rfl⟩
        · rw [f2, m1, ma, upTo_all]
          constructor
          · rintro (⟨h1, j, h2, h3⟩ | ⟨h1, h2⟩)
            · exact ⟨h1, j, by omega, h3⟩
            · exact ⟨h1, i, by omega, h2⟩
          · rintro ⟨h1, j, h2, h3⟩
            by_cases e : j = i
            · exact .inr ⟨h1, e ▸ h3⟩
            · exact .inl ⟨h1, j, by omega, h3⟩
        · have := len_fold xs acc
          rw [Nat.add_mul, Nat.one_mul]
          omega
  · rintro σ H1 ⟨s1, ⟨acc, e1, nd1, m1, z1⟩, v2, v3, v4, v5, rfl⟩
    refine ⟨_, rfl, d, _, rfl, .inl e1, fun p bs hp hk => ?_⟩
    have sp := same_upd (o := .lst (bs.map V.ref)) hp
    refine q p bs acc _ (s1.trans sp) (s1.free hp) upd_same ((isKeys_tups hk).imp fun _ _ _ _ e => sp _ _ e) nd1 m1 ?_
    have : s.lots.length * 3125 ≤ 300 * 3125 := Nat.mul_le_mul_right _ lz
    omega

theorem new_nm2 (mf md pat : Int) {l : List Int} (h : ∀ x ∈ l, x.natAbs ≤ 2) : (Sto.new mf md pat ⟨l, [[]], none⟩).Nm 2 0 := by
  refine ⟨?_, ?_, ?_, (show (0 : Int) ≤ 0 ∧ (0 : Int) ≤ 0 from by decide), ?_, h, (show (0 : Int) ≤ 0 ∧ (0 : Int) < 40 from by decide)⟩
  · intro f hf
    cases hf
  · intro f hf
    cases hf
  · intro f hf
    cases hf
  · intro lot hl p hp
    simp only [Sto.new, List.mem_singleton] at hl
    subst hl
    cases hp
/-! ### a disk that was led on, and an own one of its looks -/
def sp__law_led (K : PySem.W.Frag) : Sp := fun vs H Q _ => ∃ (st a : Addr) (ns : List Int) (f : List Addr) (b n rooms : Nat), vs = [.ref st, .int (rooms : Nat)] ∧ (drawC st a b n).P H ∧ (scrC K f a ns).P H ∧ st ∉ f ∧ 1 ≤ rooms ∧ rooms ≤ 5 ∧
  ∀ (t : Addr) (D : DL) (s : Dsk) (O : OL) (n' : Nat) (H' : Hp), (sepC (drawC st a b n') (sepC (diskC K D s) (ownC O s))).P H' → Step [st] (sepC (drawC st a b n') (sepC (diskC K D s) (ownC O s))).foot H H' → s.Ok → s.left = none → s.sure.length = rooms → s.Sml →
    H' t = some (.tup [.ref D.d, .ref O.o]) → Q (.ref t) H'
/-- what holds behind i turns -/
def runLed (K : PySem.W.Frag) (st a : Addr) (b rooms : Nat) (H : Hp) (x d : Addr) (i : Nat) (σ : L2.St) (H1 : Hp) : Prop :=
  ∃ (n' : Nat) (L' : SL) (s : Sto), Wd [st] H [stoC K L' s, drawC st a b n'] H1 ∧ s.Ok (1 + 9 * i) ∧ s.Nm 2 (9 * i) ∧ L'.st = x ∧ L'.d.d = d ∧ s.d.sure.length = rooms ∧
    ∃ v4 v5, σ = [some (.ref st), some (.int (rooms : Nat)), some (.ref d), some (.ref x), v4, v5]
def t__law_led (K : PySem.W.Frag) : TS := (tSeq (tAsg (tMake (He.ga K "Disk") (sp_Disk_init K) [] E0 (tCons (tVar 1) tNil)) (gName 2))
    (tSeq (tAsg (tMakeK (He.ga K "Store") 1 2 (sp_Store_init K) kg_Store_frames_dirty E0 (tCons (tVar 2) tNil) (tCons (tC (.int 2)) (tCons (tC (.int 1)) tNil))) (gName 3))
    (tSeq (tFor (iRng1 (tCons (tOp xAdd (tC (.int 12)) (tCall (sp__law_next K) [] E0 (tCons (tVar 0) (tCons (tC (.int 14)) tNil)))) tNil)) (gName 4) (tSeq (tAsg (tCall (sp__law_next K) [] E0 (tCons (tVar 0) (tCons (tC (.int 6)) tNil))) (gName 5))
    (tIfS (tTest (tOp xLt (tVar 5) (tC (.int 3)))) (tDrop (tMeth (He.ga K "Store") "write" (sp_Store_write K) [] E0 (tVar 3) (tCons (tCall (sp__law_next K) [] E0 (tCons (tVar 0) (tCons (tVar 1) tNil))) (tCons (tCall (sp__law_next K) [] E0 (tCons (tVar 0) (tCons (tC (.int 3)) tNil))) tNil)))) (tIfS (tTest (tOp rEq (tVar 5) (tC (.int 3)))) (tDrop (tMeth (He.ga K "Store") "order" (sp_Store_order K) [] E0 (tVar 3) tNil)) (tDrop (tMethK (He.ga K "Store") "idle" 1 (sp_Store_idle K) kg_Store_idle_many E0 (tVar 3) (tCons (tC (.int 2)) tNil)))))))
    (tRet (tTup (tCons (tVar 2) (tCons (tDisp [((tC (.str "sure")), (tMeth (He.ga K "Disk") "lasting" (sp_Disk_lasting K) [] E0 (tVar 2) tNil)), ((tC (.str "lots")), (tMeth (He.ga K "Disk") "lots" (sp_Disk_lots K) [] E0 (tVar 2) tNil))]) tNil)))))))
theorem len__law_led {K : PySem.W.Frag} (vs : List V) (H : Hp) (Q : VK) (E : XK) (h : sp__law_led K vs H Q E) : vs.length = (["_law_state", "_law_rooms"] : List Str).length := by
  unfold sp__law_led at h
  repeat (first | (obtain ⟨e, _⟩ := h; rw [e]; done) | (obtain ⟨e, _⟩ := h; rw [e]; rfl; done) | obtain ⟨_, h⟩ := h)
theorem pure__law_led {K : PySem.W.Frag} (pf : PF K) {vs : List V} {H : Hp} {Q : VK} {E : XK} (h : sp__law_led K vs H Q E) : t__law_led K { nx := fun _ H' => Q .non H', rt := Q } (start ["_law_state", "_law_rooms", "_law_disk", "_law_store", "_law_turn", "_law_sort"] vs) H := by
  obtain ⟨st, a, ns, f, b, n, rooms, rfl, hst, hscr, stf, hr1, hr2, q⟩ := h
  have W0 := Wd.start1 (drawC st a b n) H hst
  have scr : ∀ {Γ : List Ck} {H' : Hp}, Wd [st] H Γ H' → ScrSt K H' st a ns := fun W => scr_st (W.rd (scrC K f a ns) hscr fun c hc z => stf (by rw [List.mem_singleton] at z; exact z ▸ hc)) stf
  refine ⟨_, rfl, fun x dx hx hdx hxd => ⟨x, dx, rooms, rfl, upd_same, hr1, by omega, fun D H1 hD eD k1 => ⟨rfl, ?_⟩⟩⟩
  have W1 : Wd [st] H [diskC K D (Dsk.new rooms), drawC st a b n] H1 := W0.mkDisk hx hdx hD k1
  refine ⟨_, rfl, rfl, rfl, fun y dy hy hdy hyd => ?_⟩
  have m := Step.made (C := He.ga K "Store") hy hdy
  refine ⟨y, dy, D, Dsk.new rooms, 2, 1, 3, by rw [eD]; rfl, upd_same, (W1.same (step_nil2 m)).get (i := 0) rfl, ⟨by decide, by decide⟩, ⟨by decide, by decide⟩, ⟨by decide, by decide⟩, fun L H4 hL eL eDL k4 _ => ⟨rfl, ?_⟩⟩
  have W4 := W1.mkSto (i := 0) rfl hy hdy hL k4
  have ok0 : (Sto.new 2 1 3 (Dsk.new rooms)).Ok 1 := new_okL 2 1 3 (l := List.replicate rooms 0) (by rw [List.length_replicate]; exact hr1) (by rw [List.length_replicate]; omega) ⟨by omega, by omega⟩ ⟨by omega, by omega⟩
  have nm0 : (Sto.new 2 1 3 (Dsk.new rooms)).Nm 2 0 := new_nm2 2 1 3 fun x hx => by
    rw [(List.mem_replicate.mp hx).2]
    decide
  subst eL
  refine ⟨_, rfl, st, a, ns, b, n, 14, rfl, by decide, W4.get (i := 1) rfl, scr W4, fun z H5 z0 z1 k5 t5 d5 => ⟨_, _, rfl, rfl, _, rfl, by omega, by omega, ?_⟩⟩
  have W5 := W4.draw (i := 1) rfl k5 t5 d5
  refine for_range (runLed K st a b rooms H L.st x) ⟨_, L, _, W5, ok0, nm0, rfl, by rw [eDL, eD], List.length_replicate, _, _, rfl⟩ ?_ ?_
  · rintro i σ H5 hi ⟨n5, L5, s, W5, ok, nm, eL5, eD5, hsl, v4, v5, rfl⟩
    have hi : i < 26 := by omega
    have esd : ∀ {s' : Sto}, s'.d.sure = s.d.sure → s'.d.sure.length = rooms := fun e => by rw [e]; exact hsl
    refine ⟨_, rfl, st, a, ns, b, n5, 6, rfl, by decide, W5.get (i := 1) rfl, scr W5, fun r H6 r0 r1 k6 t6 d6 => ?_⟩
    have W6 := W5.draw (i := 1) rfl k6 t6 d6
    have hL6 : StoAt K H6 L5 s := W6.get (i := 0) rfl
    obtain ⟨dx6, ho6⟩ := hL6.ob
    rw [eL5] at ho6
    refine ⟨_, rfl, _, _, rfl, rfl, _, rfl, ?_⟩
    by_cases c1 : r < 3
    · refine iteY (decide_eq_true c1) ?_
      refine ⟨_, rfl, L.st, dx6, _, rfl, ho6, rfl, _, rfl, _, rfl, st, a, ns, b, n5 + 1, _, rfl, by omega, d6, scr W6, fun q1 H7 q10 q11 k7 t7 d7 => ?_⟩
      have W7 := W6.draw (i := 1) rfl k7 t7 d7
      refine ⟨_, rfl, st, a, ns, b, n5 + 2, 3, rfl, by decide, d7, scr W7, fun q2 H8 q20 q21 k8 t8 d8 => ?_⟩
      have W8 := W7.draw (i := 1) rfl k8 t8 d8
      refine ⟨L5, s, q1, q2, 1 + 9 * i, by rw [eL5]; rfl, W8.get (i := 0) rfl, ok, by omega, q10, by omega, fun L' H9 h9 a1 a2 a3 k9 => ?_⟩
      have W9 := W8.turn (i := 0) rfl (stoC K L' (s.write q1 q2)) k9 h9 (fun c hc => hc) fun c hc => .inl hc
      exact ⟨_, L', _, W9, (write_ok ok q10 (by omega) q2).mono (by omega), (nm_write nm q1 (num := q2) (by omega)).mono (by omega), a1.trans eL5, (by rw [a2, eD5]), esd (by rw [write_sure]), _, _, rfl⟩
    refine iteN (decide_eq_false c1) ?_
    refine ⟨_, rfl, rfl, _, rfl, ?_⟩
    by_cases c2 : r = 3
    · refine iteY (by rw [rooms_bl2]; exact decide_eq_true c2) ?_
      refine ⟨_, rfl, L.st, dx6, _, rfl, ho6, rfl, L5, s, 1 + 9 * i, by rw [eL5]; rfl, hL6, ok, by omega, fun L' H9 h9 a1 a2 a3 k9 => ?_⟩
      have W9 := W6.turn (i := 0) rfl (stoC K L' s.order) k9 h9 (fun c hc => hc) fun c hc => .inl hc
      exact ⟨_, L', _, W9, (order_ok ok).mono (by omega), (nm_order nm ok).mono (by omega), a1.trans eL5, (by rw [a2, eD5]), esd (by rw [order_d]), _, _, rfl⟩
    refine iteN (by rw [rooms_bl2]; exact decide_eq_false c2) ?_
    refine ⟨_, rfl, L.st, dx6, _, rfl, ho6, rfl, rfl, L5, s, 1 + 9 * i, 2, by rw [eL5]; rfl, hL6, ok, by omega, by omega, fun L' H12 p h12 a1 a2 a3 k12 hp12 e12 np => ?_⟩
    have W12 := W6.turn (i := 0) rfl (stoC K L' (drain (min 2 s.q.row.length) s)) k12 h12 (fun c hc => hc) fun c hc => .inl hc
    exact ⟨_, L', _, W12, ((drain_ok _ ok (Nat.min_le_right _ _)).1).mono (by omega), (nm_drain _ nm ok (Nat.min_le_right _ _)).mono (by omega), a1.trans eL5, (by rw [a2, eD5]), esd (drain_sure _ _), _, _, rfl⟩
  · rintro σ H5 ⟨n5, L5, s, W5, ok, nm, eL5, eD5, hsl, v4, v5, rfl⟩
    have hz : (12 + z).toNat ≤ 25 := by omega
    have dok := ok.dk (by omega)
    have wear := ok.wear
    have hL5 : StoAt K H5 L5 s := W5.get (i := 0) rfl
    have W5d := W5.seeDisk (i := 0) rfl
    refine ⟨_, rfl, ?_⟩
    intro p hp
    have W6 := W5d.one (o := .dK []) hp
    have hL6 : DiskAt K _ L5.d s.d := W6.get (i := 1) rfl
    obtain ⟨dd6, ho6⟩ := hL6.ob
    rw [eD5] at ho6
    refine ⟨_, rfl, x, dd6, _, rfl, ho6, rfl, L5.d, s.d, by rw [eD5]; rfl, hL6, fun ls H7 hls s7 e7 => ?_⟩
    have W7 := W6.told hls s7 e7
    have hL7 : DiskAt K _ L5.d s.d := W7.get (i := 2) rfl
    obtain ⟨dd7, ho7⟩ := hL7.ob
    rw [eD5] at ho7
    refine ⟨_, rfl, x, dd7, _, rfl, ho7, rfl, L5.d, s.d, by rw [eD5]; rfl, hL7, (by have := dok.lots; omega), fun lo ps H8 hlo s8 e8 hA8 nd8 => ?_⟩
    have W8 := W7.new (lotsC lo ps s.d.lots) s8 ⟨e8, hA8.imp fun _ _ _ _ z => z.2, nd8⟩ fun c hc => by
      rcases List.mem_cons.mp hc with rfl | hc
      · exact hlo
      · obtain ⟨_, _, z⟩ := hA8.mem hc
        exact z.1
    refine ⟨W8.get (i := 2) rfl, [(.inr "sure", .ref ls), (.inr "lots", .ref lo)], rfl, of_decide_eq_true rfl, ?_⟩
    have W9 := ((W8.put (i := 2) (o' := .dK (ownKV ⟨p, ls, lo, ps⟩)) rfl (by intro xs z; cases z)).perm (Γ' := [cell p (.dK (ownKV ⟨p, ls, lo, ps⟩)), lotsC lo ps s.d.lots, intsC ls s.d.sure, diskC K L5.d s.d, drawC st a b n5]) (by
        refine List.Perm.trans (List.Perm.swap _ _ _) ?_
        refine List.Perm.cons _ (List.Perm.swap _ _ _))).ownNew (L := ⟨p, ls, lo, ps⟩)
    rw [show mergeK [] [((.inr "sure" : Key), V.ref ls), (.inr "lots", .ref lo)] = ownKV ⟨p, ls, lo, ps⟩ from rfl]
    generalize upd H8 p (.dK (ownKV ⟨p, ls, lo, ps⟩)) = H9 at W9 ⊢
    refine ⟨of_decide_eq_true rfl, fun t ht => ?_⟩
    have W10 := (((W9.same (same_upd (o := .tup [.ref x, .ref p]) ht)).perm (Γ' := [diskC K L5.d s.d, ownC ⟨p, ls, lo, ps⟩ s.d, drawC st a b n5]) (List.Perm.swap _ _ _)).join.perm (Γ' := [drawC st a b n5, sepC (diskC K L5.d s.d) (ownC ⟨p, ls, lo, ps⟩ s.d)]) (List.Perm.swap _ _ _)).join
    refine q t L5.d s.d ⟨p, ls, lo, ps⟩ n5 _ (W10.get (i := 0) rfl) ?_ dok ok.left hsl ⟨nm.sure, nm.lots, by omega, by omega, by omega⟩ (by rw [eD5]; exact upd_same)
    have := W10.st
    rw [feet_cons, show feet [] = [] from rfl, List.append_nil] at this
    exact this

/-! ### answers of either kind; states as data -/
theorem lay_lots : ∀ l : List (List (Int × Int)), PyData.canLayAll0 (l.map lotD) = true ∧ PyData.depthAll (l.map lotD) ≤ 2
  | [] => ⟨rfl, Nat.zero_le _⟩
  | x :: l => by
    obtain ⟨a, b⟩ := lay_lots l
    obtain ⟨c, e⟩ := lay_pairs x
    refine ⟨?_, ?_⟩
    · rw [List.map_cons, PyData.canLayAll0, a]
      unfold lotD
      rw [PyData.canLay0, c]
      rfl
    · rw [List.map_cons, PyData.depthAll]
      have : (lotD x).depth ≤ 2 := by
        unfold lotD
        rw [PyData.depth]
        omega
      omega
theorem shaped_lots (d : Dsk) : SeqAt.shaped (lotsD d) = true := by
  have := lay_lots d.lots
  unfold SeqAt.shaped lotsD
  rw [PyData.canLay0, this.1, PyData.depth]
  exact decide_eq_true (by have := this.2; omega)
def looksD (s : Dsk) : PyData := .tuple [intsD s.sure, lotsD s]
theorem shaped_looks (s : Dsk) : SeqAt.shaped (looksD s) = true := by
  have h1 := lay_ints s.sure
  have h2 := lay_lots s.lots
  unfold SeqAt.shaped looksD
  have a1 : (intsD s.sure).canLay0 = true := by unfold intsD; rw [PyData.canLay0]; exact h1.1
  have a2 : (lotsD s).canLay0 = true := by unfold lotsD; rw [PyData.canLay0]; exact h2.1
  have b1 : (intsD s.sure).depth = 1 := by unfold intsD; rw [PyData.depth, h1.2]
  have b2 : (lotsD s).depth ≤ 3 := by unfold lotsD; rw [PyData.depth]; have := h2.2; omega
  rw [PyData.canLay0, PyData.canLayAll0, PyData.canLayAll0, PyData.canLayAll0, a1, a2, PyData.depth, PyData.depthAll, PyData.depthAll, PyData.depthAll, b1]
  exact decide_eq_true (by omega)
theorem eqv_same {d : PyData} (h : SeqAt.shaped d = true) : PyData.eqv d d = true := by
  unfold SeqAt.shaped at h
  rw [Bool.and_eq_true] at h
  exact PySem.SeqAt.eqv_refl d h.1

def sp_law (K : PySem.W.Frag) : Sp := fun vs H Q _ => ∃ (a : Addr) (ns : List Int), vs = [.ref a] ∧ SqL K H a (ns.map V.int) ∧ ns.length ≤ 63 ∧ ∀ H', Q (.bl true) H'
theorem law_start {K : PySem.W.Frag} {H : Hp} {a : Addr} {ns : List Int} (hl : ns.length ≤ 63) (hS : SqL K H a (ns.map V.int)) : sp_law K [.ref a] H (fun v _ => v = .bl true) fun _ _ _ => False :=
  ⟨a, ns, rfl, hS, hl, fun _ => rfl⟩
theorem rg_of (M S : Nat) (hS : 0 < S ∧ S < 1000) (hd : ∀ k : Fin M, ∃ n : Nat, n ≤ 100 ∧ Builtin.Range.small 0 ((k.val + 1 : Nat) : Int) (S : Int) = true ∧ Builtin.Range.rangeSize 0 ((k.val + 1 : Nat) : Int) (S : Int) = n) (j : Int) (h1 : 1 ≤ j) (h2 : j ≤ M) : ∃ n : Nat, RgC 0 j (S : Int) n := by
  obtain ⟨n, _, a, b⟩ := hd ⟨(j - 1).toNat, by omega⟩
  have e : (((j - 1).toNat + 1 : Nat) : Int) = j := by omega
  rw [e] at a b
  exact ⟨n, by omega, by omega, a, b⟩

/-! ### many lots -/
def manyS : Nat → Sto
  | 0 => Sto.new 1 1 0 (Dsk.new 2)
  | k + 1 => ((manyS k).write 0 (1 + (k : Int))).order
def manyE (n : Nat) : Sto := drain (min 99 (manyS n).q.row.length) (manyS n)
def lotsK (s : Dsk) : List (List (List Int)) := lotsUp s s.lots.length
def manyR (n : Nat) : Bool := decide ((lotsK (manyE n).d).length = n) && (decide (10 < n) || decide (countN (manyE n).d = (n : Int) + 1))
theorem many_right : manyR 0 = true ∧ manyR 1 = true ∧ manyR 2 = true ∧ manyR 9 = true ∧ manyR 10 = true ∧ manyR 11 = true ∧ manyR 14 = true := ⟨by kernel_rfl, by kernel_rfl, by kernel_rfl, by kernel_rfl, by kernel_rfl, by kernel_rfl, by kernel_rfl⟩
theorem many_ok : ∀ k : Nat, (manyS k).Ok (1 + 11 * k) ∧ (manyS k).d.sure.length = 2
  | 0 => ⟨new_okL 1 1 0 (l := List.replicate 2 0) (by decide) (by decide) ⟨by decide, by decide⟩ ⟨by decide, by decide⟩, rfl⟩
  | k + 1 => by
    obtain ⟨ok, hl⟩ := many_ok k
    have w := write_ok ok (room := 0) (by decide) (by rw [hl]; decide) (1 + (k : Int))
    exact ⟨(order_ok w).mono (by omega), by
      show (((manyS k).write 0 (1 + (k : Int))).order).d.sure.length = 2
      rw [order_d, write_sure, hl]⟩
theorem str_ok {K : PySem.W.Frag} {H : Hp} {v : V} {d : PyData} {k c : Nat} (h : Fit d k c) (hd : Dp K H v d) (hb : ∀ b, v ≠ .bl b) (hk : k ≤ 60) (hc : c ≤ 600000) : Dp K H v d ∧ (∀ x, v ≠ .str x) ∧ (∀ b, v ≠ .bl b) ∧ d.showable = true ∧ d.depth ≤ 60 ∧ d.shown.length ≤ sizeLine := by
  have := Fit.str (Q := fun _ _ => True) h hd hb hk hc trivial
  refine ⟨hd, ?_, hb, nums_show d h.nu, Nat.le_trans h.de hk, h.len hc⟩
  rintro x rfl
  cases hd
  have := h.nu
  rw [nums] at this
  cases this
def sp__law_many_right (K : PySem.W.Frag) : Sp := fun vs H Q _ => ∃ n : Nat, vs = [.int (n : Nat)] ∧ manyR n = true ∧ n ≤ 14 ∧ ∀ H', Same H H' → Q (.bl true) H'
def t__law_many_right (K : PySem.W.Frag) : TS := (tSeq (tAsg (tMake (He.ga K "Disk") (sp_Disk_init K) [] E0 (tCons (tC (.int 2)) tNil)) (gName 1))
    (tSeq (tAsg (tMakeK (He.ga K "Store") 1 3 (sp_Store_init K) kg_Store_frames_dirty_patience E0 (tCons (tVar 1) tNil) (tCons (tC (.int 1)) (tCons (tC (.int 1)) (tCons (tC (.int 0)) tNil)))) (gName 2))
    (tSeq (tFor (iRng1 (tCons (tVar 0) tNil)) (gName 3) (tSeq (tDrop (tMeth (He.ga K "Store") "write" (sp_Store_write K) [] E0 (tVar 2) (tCons (tC (.int 0)) (tCons (tOp xAdd (tC (.int 1)) (tVar 3)) tNil))))
    (tDrop (tMeth (He.ga K "Store") "order" (sp_Store_order K) [] E0 (tVar 2) tNil))))
    (tSeq (tDrop (tMethK (He.ga K "Store") "idle" 1 (sp_Store_idle K) kg_Store_idle_many E0 (tVar 2) (tCons (tC (.int 99)) tNil)))
    (tSeq (fun D σ H => (fun W => (tAsg (tCallS (sp_count K) (WE W) (tCons (tVar 1) tNil)) (gName 4))) (wAs K (.ref (He.ga K "RoomError")) 5 (fun a cls d => (tRet (tAndV (tGiven (cls = .ref (He.ga K "TooMany") ∧ d = none) (tCB (rIsE K (He.ga K "TooMany") a) (tCons (tVar 5) (tCons (tC (.ref (He.ga K "TooMany"))) tNil)))) (tAndV (tGiven (cls = .ref (He.ga K "TooMany") ∧ d = none) (tCB (rIsE K (He.ga K "TooMany") a) (tCons (tVar 5) (tCons (tC (.ty "ValueError")) tNil)))) (tOp xGt (tVar 0) (tC (.int 10))))))) (fun _ _ _ _ => False) D) D σ H)
    (tRet (tAndV (tOp rEq (tCB (rStr K) (tCons (tVar 4) tNil)) (tCB (rStr K) (tCons (tOp xAdd (tVar 0) (tC (.int 1))) tNil))) (tOp xLt (tVar 0) (tC (.int 11))))))))))
theorem len__law_many_right {K : PySem.W.Frag} (vs : List V) (H : Hp) (Q : VK) (E : XK) (h : sp__law_many_right K vs H Q E) : vs.length = (["_law_lots"] : List Str).length := by
  unfold sp__law_many_right at h
  repeat (first | (obtain ⟨e, _⟩ := h; rw [e]; done) | (obtain ⟨e, _⟩ := h; rw [e]; rfl; done) | obtain ⟨_, h⟩ := h)
theorem pure__law_many_right {K : PySem.W.Frag} (pf : PFZ K) {vs : List V} {H : Hp} {Q : VK} {E : XK} (h : sp__law_many_right K vs H Q E) : t__law_many_right K { nx := fun _ H' => Q .non H', rt := Q } (start ["_law_lots", "_law_disk", "_law_store", "_law_lot", "_law_found", "error"] vs) H := by
  obtain ⟨n, rfl, hr, hn, q⟩ := h
  have W0 := Wd.start0 H
  refine fun x dx hx hdx hxd => ⟨x, dx, 2, rfl, upd_same, by decide, by decide, fun D H2 hD eD k2 => ⟨rfl, ?_⟩⟩
  have W2 : Wd [] H [diskC K D (Dsk.new 2)] H2 := W0.mkDisk hx hdx hD k2
  refine ⟨_, rfl, rfl, rfl, fun y dy hy hdy hyd => ?_⟩
  have m := Step.made (C := He.ga K "Store") hy hdy
  refine ⟨y, dy, D, Dsk.new 2, 1, 1, 0, by rw [eD]; rfl, upd_same, (W2.same (step_nil2 m)).get (i := 0) rfl, ⟨by decide, by decide⟩, ⟨by decide, by decide⟩, ⟨by decide, by decide⟩, fun L H3 hL eL eDL k3 _ => ⟨rfl, ?_⟩⟩
  have W3 := W2.mkSto (i := 0) rfl hy hdy hL k3
  subst eL
  refine ⟨_, rfl, _, rfl, by omega, by omega, ?_⟩
  rw [Int.toNat_natCast]
  refine for_range (fun k σ H5 => ∃ L', Wd [] H [stoC K L' (manyS k)] H5 ∧ L'.st = L.st ∧ L'.d.d = x ∧ ∃ v3, σ = [some (.int (n : Nat)), some (.ref x), some (.ref L.st), v3, none, none]) ⟨L, W3, rfl, by rw [eDL, eD], _, rfl⟩ ?_ ?_
  · rintro k σ H5 hk ⟨L5, W5, e5, d5, v3, rfl⟩
    obtain ⟨ok, hsl⟩ := many_ok k
    have hL5 : StoAt K H5 L5 (manyS k) := W5.get (i := 0) rfl
    obtain ⟨dx5, ho5⟩ := hL5.ob
    rw [e5] at ho5
    rw [Int.zero_add]
    refine ⟨_, rfl, L.st, dx5, _, rfl, ho5, rfl, _, rfl, _, _, rfl, rfl, L5, manyS k, 0, 1 + (k : Int), 1 + 11 * k, by rw [e5]; rfl, hL5, ok, by omega, by decide, by rw [hsl]; decide, fun L6 H6 h6 a1 a2 a3 k6 => ?_⟩
    have W6 := W5.turn (i := 0) rfl (stoC K L6 _) k6 h6 (fun c hc => hc) fun c hc => .inl hc
    have ok6 := write_ok ok (room := 0) (by decide) (by rw [hsl]; decide) (1 + (k : Int))
    obtain ⟨dx6, ho6⟩ := h6.ob
    rw [a1, e5] at ho6
    refine ⟨_, rfl, L.st, dx6, _, rfl, ho6, rfl, L6, _, 1 + 11 * k + 2, by rw [a1, e5]; rfl, h6, ok6, by omega, fun L7 H7 h7 b1 b2 b3 k7 => ?_⟩
    have W7 := W6.turn (i := 0) rfl (stoC K L7 _) k7 h7 (fun c hc => hc) fun c hc => .inl hc
    exact ⟨L7, W7, by rw [b1, a1, e5], by rw [b2, a2, d5], _, rfl⟩
  · rintro σ H5 ⟨L5, W5, e5, d5, v3, rfl⟩
    obtain ⟨ok, hsl⟩ := many_ok n
    have hL5 : StoAt K H5 L5 (manyS n) := W5.get (i := 0) rfl
    obtain ⟨dx5, ho5⟩ := hL5.ob
    rw [e5] at ho5
    refine ⟨_, rfl, L.st, dx5, _, rfl, ho5, rfl, rfl, L5, manyS n, 1 + 11 * n, 99, by rw [e5]; rfl, hL5, ok, by omega, by decide, fun L6 H6 p6 h6 a1 a2 a3 k6 hp6 hv6 np6 => ?_⟩
    have W6 := W5.turn (i := 0) rfl (stoC K L6 (manyE n)) k6 h6 (fun c hc => hc) fun c hc => .inl hc
    have ok6 : (manyE n).Ok (1 + 11 * n) := (drain_ok _ ok (Nat.min_le_right _ _)).1
    have hD6 : DiskAt K H6 L6.d (manyE n).d := h6.d
    have s6 : Same H H6 := step_nil2 W6.st
    unfold manyR lotsK at hr
    rw [Bool.and_eq_true, Bool.or_eq_true, decide_eq_true_eq, decide_eq_true_eq, decide_eq_true_eq] at hr
    obtain ⟨hr1, hr2⟩ := hr
    refine ⟨_, rfl, L6.d, (manyE n).d, by rw [a2, d5], hD6, ok6.dk (by omega), fun h10 H7 s7 => ?_, fun h10 H7 s7 => ?_⟩
    · rw [hr1] at h10
      refine ⟨true, pf.em_TooMany_RoomError, fun _ b hb => ?_, fun z => by cases z⟩
      refine ⟨⟨rfl, rfl⟩, _, rfl, .ref (He.ga K "TooMany"), .ref (He.ga K "TooMany"), true, rfl, fun u z => z, pf.kx_TooMany, true, rfl, ?_⟩
      rw [if_pos rfl]
      refine ⟨⟨rfl, rfl⟩, _, rfl, .ty "ValueError", .type "ValueError", true, rfl, fun u z => z, pf.kv_TooMany, true, rfl, ?_⟩
      rw [if_pos rfl]
      refine ⟨_, rfl, _, _, rfl, rfl, ?_⟩
      show Q (.bl (decide ((n : Int) > 10))) H7
      rw [decide_eq_true (by omega)]
      exact q H7 (s6.trans s7)
    · rw [hr1] at h10
      have hc : countN (manyE n).d = (n : Int) + 1 := by
        rcases hr2 with z | z
        · omega
        · exact z
      rw [hc]
      refine ⟨_, rfl, ?_⟩
      obtain ⟨b1, b2, b3, b4, b5, b6⟩ := str_ok (K := K) (H := H7) (v := .int ((n : Int) + 1)) (Fit.int (i := (n : Int) + 1) (by omega)) (.int _) (fun b z => by cases z) (by decide) (by decide)
      refine ⟨_, _, rfl, b1, b2, b3, b4, b5, b6, ?_⟩
      refine ⟨_, rfl, _, _, rfl, rfl, ?_⟩
      refine ⟨_, _, rfl, b1, b2, b3, b4, b5, b6, ?_⟩
      refine ⟨rfl, _, rfl, ?_⟩
      rw [decide_eq_true rfl, if_pos rfl]
      refine ⟨_, rfl, _, _, rfl, rfl, ?_⟩
      show Q (.bl (decide ((n : Int) < 11))) H7
      rw [decide_eq_true (by omega)]
      exact q H7 (s6.trans s7)

/-! ### the law -/
theorem states_pos {s : Dsk} (ok : s.Ok) {xs : List (List Int)} (hm : ∀ x, x ∈ xs ↔ x.length = s.sure.length ∧ ∃ lot, lot < s.lots.length ∧ goodLot s x lot = true) : 0 < xs.length := by
  have hpos : 0 < s.lots.length := List.length_pos_iff.mpr ok.ne
  have : s.with_ 0 ∈ xs := (hm _).mpr ⟨Dsk.with_len _ _, 0, hpos, good_with 0⟩
  exact List.length_pos_iff.mpr fun z => by rw [z] at this; cases this
def t_law (K : PySem.W.Frag) : TS := (tSeq (tFor (iRng3 (tCons (tC (.int 0)) (tCons (tCB (xMax2) (tCons (tC (.int 1)) (tCons (tCB (xMin2) (tCons (tC (.int 48)) (tCons (tCB (xLen K) (tCons (tVar 0) tNil)) tNil))) tNil))) (tCons (tC (.int 12)) tNil)))) (gName 1) (tSeq (tAsg (tLst (tCons (tVar 0) (tCons (tVar 1) (tCons (tC (.int 0)) tNil)))) (gName 2))
    (tSeq (tAsg (tCall (sp__law_led K) [] E0 (tCons (tVar 2) (tCons (tOp xAdd (tC (.int 1)) (tCall (sp__law_next K) [] E0 (tCons (tVar 2) (tCons (tC (.int 5)) tNil)))) tNil))) (gTup K 2 (gCons (gName 3) (gCons (gName 4) gNil))))
    (tIfS (tTest (tOp xLt (tCB (xLen K) (tCons (tLc (iList K (tDGet (tVar 4) (tC (.str "lots")))) (gName 8) (tTest (tOp (rNeE K) (tVar 8) (tLst tNil))) (tVar 8) [8]) tNil)) (tC (.int 11)))) (tSeq (tAsg (tCall (sp__law_states K) [] E0 (tCons (tVar 4) tNil)) (gName 5))
    (tSeq (tIfS (tOr (tTest (tOp rNe (tCB (rStr K) (tCons (tLst (tCons (tCall (sp_count K) [] E0 (tCons (tVar 3) tNil)) tNil)) tNil)) (tCB (rStr K) (tCons (tLst (tCons (tCB (xLen K) (tCons (tVar 5) tNil)) tNil)) tNil)))) (tTest (tOp (rNeD K) (tTup (tCons (tMeth (He.ga K "Disk") "lasting" (sp_Disk_lasting K) [] E0 (tVar 3) tNil) (tCons (tMeth (He.ga K "Disk") "lots" (sp_Disk_lots K) [] E0 (tVar 3) tNil) tNil))) (tTup (tCons (tDGet (tVar 4) (tC (.str "sure"))) (tCons (tDGet (tVar 4) (tC (.str "lots"))) tNil)))))) (tRet (tC (.bl false))) tNext)
    (tSeq (tAsg (tCB (xList K) (tCons (tOp (rIxL K) (tVar 5) (tCall (sp__law_next K) [] E0 (tCons (tVar 2) (tCons (tCB (xLen K) (tCons (tVar 5) tNil)) tNil)))) tNil)) (gName 6))
    (tIfS (tOr (tNot (tB (tCB (rIsi K) (tCons (tCall (sp_may_be K) [] E0 (tCons (tVar 3) (tCons (tVar 6) tNil))) (tCons (tC (.ref (He.ga K "Left"))) tNil))))) (tTest (tOp xNotB (tMeth (He.ga K "Left") "shows" (sp_Left_shows K) [] E0 (tCall (sp_may_be K) [] E0 (tCons (tVar 3) (tCons (tVar 6) tNil))) (tCons (tVar 3) (tCons (tVar 6) tNil))) (tC (.bl true))))) (tRet (tC (.bl false))) tNext)))) tNext))))
    (tRet (tCB (rAll K) (tCons (tLc (iTup K (tTup (tCons (tC (.int 0)) (tCons (tC (.int 1)) (tCons (tC (.int 2)) (tCons (tC (.int 9)) (tCons (tC (.int 10)) (tCons (tC (.int 11)) (tCons (tC (.int 14)) tNil))))))))) (gName 7) tYes (tCall (sp__law_many_right K) [] E0 (tCons (tVar 7) tNil)) [7]) tNil))))
theorem len_law {K : PySem.W.Frag} (vs : List V) (H : Hp) (Q : VK) (E : XK) (h : sp_law K vs H Q E) : vs.length = (["_law_script"] : List Str).length := by
  unfold sp_law at h
  repeat (first | (obtain ⟨e, _⟩ := h; rw [e]; done) | (obtain ⟨e, _⟩ := h; rw [e]; rfl; done) | obtain ⟨_, h⟩ := h)
theorem pure_law {K : PySem.W.Frag} (pf : PFZ K) {vs : List V} {H : Hp} {Q : VK} {E : XK} (h : sp_law K vs H Q E) : t_law K { nx := fun _ H' => Q .non H', rt := Q } (start ["_law_script", "_law_by", "_law_state", "_law_disk", "_law_own", "_law_states_here", "_law_some", "_law_lots", "_law_lot"] vs) H := by
  obtain ⟨a, ns, rfl, hs, hl, q⟩ := h
  obtain ⟨f, hf⟩ := scr_start hs
  refine ⟨_, rfl, a, _, rfl, .inl hs, _, _, rfl, _, _, rfl, ?_⟩
  obtain ⟨m, hm⟩ := rg_of 48 12 (by decide) (by decide +kernel) (if (if ((ns.map V.int).length : Int) < 48 then ((ns.map V.int).length : Int) else 48) > 1 then (if ((ns.map V.int).length : Int) < 48 then ((ns.map V.int).length : Int) else 48) else 1) (by split <;> split at * <;> omega) (by split <;> split at * <;> omega)
  refine ⟨_, _, _, m, rfl, hm, ?_⟩
  refine for_it walk_rangeC (fun n σ H1 => Wd f H [scrC K f a ns] H1 ∧ ∃ w1 w2 w3 w4 w5 w6 w7 w8, σ = [some (.ref a), w1, w2, w3, w4, w5, w6, w7, w8]) ⟨Wd.start1 (scrC K f a ns) H hf, _, _, _, _, _, _, _, _, rfl⟩ (fun _ _ _ _ _ => trivial) ?_ ?_
  · rintro i x σ H0 H' hi ⟨W0, w1, w2, w3, w4, w5, w6, w7, w8, rfl⟩ ⟨rfl, hx⟩
    dsimp only at hx
    rw [show (0 + ((i : Nat) : Int) * 12) = ((i * 12 : Nat) : Int) by omega] at hx
    subst hx
    refine ⟨_, rfl, _, rfl, of_decide_eq_true rfl, fun st hst => ?_⟩
    have W1 : Wd f H [drawC st a (i * 12) 0, scrC K f a ns] _ := W0.one (o := .lst [.ref a, .int ((i * 12 : Nat) : Int), .int 0]) hst
    refine ⟨_, rfl, _, rfl, st, a, ns, i * 12, 0, 5, rfl, by decide, W1.get (i := 0) rfl, W1.scr (i := 1) (j := 0) rfl rfl, fun r H4 r0 r1 k4 t4 d4 => ⟨_, _, rfl, rfl, ?_⟩⟩
    have W4 := W1.draw (i := 0) rfl k4 t4 d4
    obtain ⟨n0, rfl⟩ := Int.eq_ofNat_of_zero_le r0
    refine ⟨st, a, ns, f, i * 12, 1, n0 + 1, ?_, W4.get (i := 0) rfl, W4.get (i := 1) rfl, ?_, by omega, by omega, fun t5 D s O n5 H5 hp5 k5 ok left5 sl5 sml ht5 => ?_⟩
    · show [V.ref st, V.int (1 + (n0 : Int))] = _
      rw [show (1 : Int) + (n0 : Int) = ((n0 + 1 : Nat) : Int) by omega]
    · intro z
      exact W4.apart (i := 1) (j := 0) rfl rfl (by decide) st z (by simp [cell])
    have W5 := (W4.turn (i := 0) rfl (sepC (drawC st a (i * 12) n5) (sepC (diskC K D s) (ownC O s))) k5 hp5 (fun c hc => hc) fun c hc => .inl hc).split.pick [1, 0, 2] |>.split
    have W5 : Wd f H [diskC K D s, ownC O s, drawC st a (i * 12) n5, scrC K f a ns] H5 := W5
    refine ⟨t5, _, rfl, SqT.of ht5, rfl, _, _, rfl, _, _, rfl, rfl, ?_⟩
    have hO5 : OwnAt H5 O s := W5.get (i := 1) rfl
    have hpos : 0 < s.lots.length := List.length_pos_iff.mpr ok.ne
    have l300 := sml.2.2.1
    have szs := ok.size
    refine ⟨_, rfl, O.o, _, rfl, hO5.getL, O.lo, rfl, ⟨_, SqL.of hO5.lo⟩, fun Dc hDc => ?_⟩
    refine lc_it (walk_list (K := K)) (fun j H6 => Same H5 H6 ∧ ∃ vs : List V, H6 Dc = some (.lst vs) ∧ vs.length = (lotsUp s j).length) ⟨same_upd hDc, [], upd_same, rfl⟩ (fun j H6 _ h6 => SqL.of (h6.1 _ _ hO5.lo)) ?_ ?_
    · rintro j x H6 H6' hj ⟨s6, vs, e6, z6⟩ ⟨e66, hx⟩
      obtain rfl := e66.symm
      rw [List.length_map, hO5.lots.len] at hj
      rw [List.getElem?_map] at hx
      obtain ⟨la, hla, rfl⟩ := Option.map_eq_some_iff.mp hx
      obtain ⟨lot, hlot, ts, elt, tt⟩ := hO5.lots.get hla
      refine ⟨rfl, ?_⟩
      refine ⟨_, rfl, of_decide_eq_true rfl, fun c hc => ⟨la, c, _, rfl, rfl, SqL.of (same_upd hc _ _ (s6 _ _ elt)), SqL.of upd_same, _, rfl, ?_⟩⟩
      have sc := same_upd (o := .lst []) hc
      generalize upd H6 c (.lst []) = H7 at sc ⊢
      have ef : (!(ts.map V.ref).isEmpty) = fullLot s j := by
        unfold fullLot
        rw [hlot]
        cases tt <;> rfl
      rw [ef]
      cases hf : fullLot s j with
      | false =>
        refine iteF ⟨s6.trans sc, vs, sc _ _ e6, ?_⟩
        rw [lots_succ, hf, if_neg Bool.false_ne_true, List.append_nil]
        exact z6
      | true =>
        refine iteT ⟨_, rfl, _, sc _ _ e6, sz_lt ?_, upd_new (s6.trans sc) hDc, vs ++ [.ref la], upd_same, ?_⟩
        · rw [z6]
          unfold lotsUp
          rw [List.length_map]
          refine Nat.le_trans (List.length_filter_le _ _) ?_
          rw [List.length_range]
          omega
        · rw [lots_succ, hf, if_pos rfl, List.length_append, List.length_append, z6]
          rfl
    rintro H6 ⟨s6, vs, e6, z6⟩
    rw [List.length_map, hO5.lots.len] at z6
    have W6 := W5.same s6
    refine ⟨_, _, rfl, .inl (SqL.of e6), _, _, rfl, rfl, _, rfl, ?_⟩
    rw [z6]
    by_cases hfew : 11 ≤ (lotsUp s s.lots.length).length
    · exact iteN (decide_eq_false (by omega)) ⟨W6.pick [3], _, _, _, _, _, _, _, _, rfl⟩
    refine iteY (decide_eq_true (by omega)) ?_
    refine ⟨_, rfl, O, s, rfl, W6.get (i := 1) rfl, ok, sml, fun p ts xs H7 s7 hp7 e7 A7 nd hmem zx => ?_⟩
    have W7 := W6.same s7
    have lts := A7.len
    have hcount := states_count ok nd hmem
    have hxs := states_pos ok hmem
    have hD7 : DiskAt K H7 D s := W7.get (i := 0) rfl
    refine ⟨_, rfl, D, s, rfl, hD7, ok, fun h10 => by omega, fun _ H8 s8 => ⟨of_decide_eq_true rfl, fun l1 hl1 => ?_⟩⟩
    have s9 := same_upd (o := .lst [V.int (countN s)]) hl1
    have e9 : upd H8 l1 (.lst [V.int (countN s)]) l1 = some (.lst [V.int (countN s)]) := upd_same
    generalize upd H8 l1 (.lst [V.int (countN s)]) = H9 at s9 e9 ⊢
    have s79 := s8.trans s9
    rw [← hcount] at e9
    have fitn : Fit (.list [.int ((xs.length : Nat) : Int)]) 1 1 := Fit.list (k := 0) (c := 0) (n := 1) (fun d hd => by rw [List.mem_singleton] at hd; subst hd; exact Fit.int (by omega)) (Nat.le_refl 1)
    obtain ⟨b1, b2, b3, b4, b5, b6⟩ := str_ok (K := K) fitn (.lst (SqL.of e9) (.cons (.int _) .nil)) (fun b z => by cases z) (by decide) (by decide)
    refine ⟨_, _, rfl, b1, b2, b3, b4, b5, b6, ?_⟩
    refine ⟨_, rfl, _, _, rfl, .inl (SqL.of (s79 _ _ e7)), of_decide_eq_true rfl, fun l2 hl2 => ?_⟩
    rw [List.length_map, lts]
    have s10 := same_upd (o := .lst [V.int ((xs.length : Nat) : Int)]) hl2
    have e10 : upd H9 l2 (.lst [V.int ((xs.length : Nat) : Int)]) l2 = some (.lst [V.int ((xs.length : Nat) : Int)]) := upd_same
    generalize upd H9 l2 (.lst [V.int ((xs.length : Nat) : Int)]) = H10 at s10 e10 ⊢
    have s710 := s79.trans s10
    obtain ⟨c1, c2, c3, c4, c5, c6⟩ := str_ok (K := K) fitn (.lst (SqL.of e10) (.cons (.int _) .nil)) (fun b z => by cases z) (by decide) (by decide)
    refine ⟨_, _, rfl, c1, c2, c3, c4, c5, c6, ?_⟩
    refine ⟨rfl, _, rfl, iteN (by rw [decide_eq_true rfl]; rfl) ?_⟩
    have hD10 := hD7.same s710
    obtain ⟨dd10, ho10⟩ := hD10.ob
    refine ⟨_, rfl, D.d, dd10, _, rfl, ho10, rfl, D, s, rfl, hD10, fun p1 H11 hp1 s11 e11 => ?_⟩
    have hD11 := hD10.same s11
    obtain ⟨dd11, ho11⟩ := hD11.ob
    refine ⟨_, rfl, D.d, dd11, _, rfl, ho11, rfl, D, s, rfl, hD11, by omega, fun p2 ps H12 hp2 s12 e12 hA12 _ => ⟨of_decide_eq_true rfl, fun t1 ht1 => ?_⟩⟩
    have s13 := same_upd (o := .tup [.ref p1, .ref p2]) ht1
    have s713 := ((s710.trans s11).trans s12).trans s13
    have hO13 : OwnAt _ O s := (W7.same s713).get (i := 1) rfl
    refine ⟨_, rfl, O.o, _, rfl, hO13.getS, _, rfl, O.o, _, rfl, hO13.getL, of_decide_eq_true rfl, fun t2 ht2 => ?_⟩
    have s14 := same_upd (o := .tup [.ref O.ls, .ref O.lo]) ht2
    have hO14 := hO13.same s14
    have d1 : Dp K (upd (upd H12 t1 (.tup [.ref p1, .ref p2])) t2 (.tup [.ref O.ls, .ref O.lo])) (.ref t1) (looksD s) := .tup (SqT.of (s14 _ _ upd_same)) (.cons (dp_intl (s14 _ _ (s13 _ _ (s12 _ _ e11)))) (.cons (.lst (SqL.of (s14 _ _ (s13 _ _ e12))) (dp_lots (hA12.imp fun _ _ _ _ z => lotAt_same z.2 (s13.trans s14)))) .nil))
    have d2 : Dp K (upd (upd H12 t1 (.tup [.ref p1, .ref p2])) t2 (.tup [.ref O.ls, .ref O.lo])) (.ref t2) (looksD s) := .tup (SqT.of upd_same) (.cons (dp_intl hO14.ls) (.cons (.lst (SqL.of hO14.lo) (dp_lots hO14.lots)) .nil))
    refine ⟨looksD s, looksD s, d1, d2, shaped_looks s, shaped_looks s, ?_⟩
    rw [eqv_same (shaped_looks s)]
    refine ⟨_, rfl, iteN rfl ?_⟩
    have s714 := s713.trans s14
    generalize upd (upd H12 t1 (.tup [.ref p1, .ref p2])) t2 (.tup [.ref O.ls, .ref O.lo]) = H14 at s714
    have W14 := W7.same s714
    have e14 := s714 _ _ e7
    have A14 : All2 (TupN H14) ts xs := A7.imp fun _ _ _ _ e => s714 _ _ e
    refine ⟨_, rfl, _, rfl, _, rfl, _, _, rfl, .inl (SqL.of e14), ?_⟩
    rw [List.length_map, lts]
    refine ⟨st, a, ns, i * 12, n5, (xs.length : Nat), rfl, by omega, W14.get (i := 2) rfl, W14.scr (i := 3) (j := 2) rfl rfl, fun j H15 j0 j1 k15 t15 d15 => ?_⟩
    have W15 := W14.draw (i := 2) rfl k15 t15 d15
    have hst14 : H14 st ≠ none := by
      have : H14 st = _ := W14.get (i := 2) rfl
      rw [this]
      exact fun z => by cases z
    have hst7 : H6 st ≠ none := by
      have : H6 st = _ := W6.get (i := 2) rfl
      rw [this]
      exact fun z => by cases z
    have npst : p ≠ st := fun z => hst7 (z ▸ hp7)
    have e15 := k15 _ _ e14 npst
    obtain ⟨j, rfl⟩ := Int.eq_ofNat_of_zero_le j0
    have hj : j < xs.length := by omega
    obtain ⟨tj, htj, ej⟩ := A14.get2 (List.getElem?_eq_getElem hj)
    have ej15 := t15 _ _ ej
    have hxj := (hmem xs[j]).mp (List.getElem_mem hj)
    obtain ⟨hxl, lot0, hlot0, hgood0⟩ := hxj
    generalize xs[j] = x at *
    refine ⟨p, _, (j : Nat), .ref tj, rfl, rfl, SqL.of e15, atI_of ?_, tj, _, rfl, .inr (SqT.of ej15), fun v6 hv6 => ?_⟩
    · rw [List.getElem?_map, htj]
      rfl
    have s16 := same_upd (o := .lst (x.map V.int)) hv6
    have e16 : upd H15 v6 (.lst (x.map V.int)) v6 = some (.lst (x.map V.int)) := upd_same
    generalize upd H15 v6 (.lst (x.map V.int)) = H16 at s16 e16 ⊢
    have W16 := W15.same s16
    have hD16 : DiskAt K H16 D s := W16.get (i := 0) rfl
    have nobad : ∀ {P : Prop}, (∀ j, j < s.lots.length → goodLot s x j = false) → P := fun hb => by
      have := hb lot0 hlot0
      rw [hgood0] at this
      cases this
    refine ⟨_, rfl, _, rfl, D, s, v6, x, rfl, hD16, ok, e16, hxl, fun lot a1 H17 hlt hg hbd s17 ha1 hleft => ?_, fun hbd => nobad hbd⟩
    obtain ⟨dl, kl, el, _⟩ := hleft
    refine ⟨_, _, _, _, true, rfl, .own _, .base (.ins el pf.io_Left.cl pf.io_Left.ha pf.io_Left.hn pf.io_Left.htk pf.io_Left.hm), pf.ki_Left, _, rfl, iteN rfl ?_⟩
    have hD17 := hD16.same s17
    have e17 := s17 _ _ e16
    refine ⟨_, rfl, _, rfl, D, s, v6, x, rfl, hD17, ok, e17, hxl, fun lot2 a2 H18 hlt2 hg2 hbd2 s18 ha2 hleft2 => ?_, fun hbd => nobad hbd⟩
    have hla := hleft2.at
    obtain ⟨dl2, kl2, el2, _⟩ := hleft2
    refine ⟨a2, dl2, _, rfl, el2, rfl, _, rfl, _, rfl, a2, D, s, lot2, keptOf s x lot2, v6, x, rfl, hla, hD17.same s18, ok, SqL.of (s18 _ _ e17), fun H19 s19 => ?_⟩
    rw [good_shows hlt2 hxl hg2]
    refine ⟨true, true, rfl, rfl, _, rfl, iteN rfl ?_⟩
    exact ⟨(W16.same ((s17.trans s18).trans s19)).pick [3], _, _, _, _, _, _, _, _, rfl⟩
  · rintro σ H1 ⟨_, w1, w2, w3, w4, w5, w6, w7, w8, rfl⟩
    refine ⟨of_decide_eq_true rfl, fun bt hbt => ⟨bt, rfl, ⟨_, SqT.of upd_same⟩, ?_⟩⟩
    have htp : upd H1 bt (.tup [V.int 0, .int 1, .int 2, .int 9, .int 10, .int 11, .int 14]) bt = some (.tup [V.int 0, .int 1, .int 2, .int 9, .int 10, .int 11, .int 14]) := upd_same
    generalize upd H1 bt (.tup [V.int 0, .int 1, .int 2, .int 9, .int 10, .int 11, .int 14]) = H2 at htp ⊢
    intro Dc hDc
    refine lc_it (walk_tup (xs := ([0, 1, 2, 9, 10, 11, 14] : List Nat).map fun n => V.int (n : Nat))) (fun i H' => Same H2 H' ∧ H' Dc = some (.lst ((List.replicate i true).map V.bl))) ⟨same_upd hDc, upd_same⟩ (fun i H' _ h => SqT.of (h.1 _ _ htp)) ?_ ?_
    · rintro i z H10 H11 hi ⟨s10, hv10⟩ ⟨rfl, hz⟩
      rw [List.getElem?_map] at hz
      obtain ⟨n, hn, rfl⟩ := Option.map_eq_some_iff.mp hz
      have hi : i < 7 := hi
      have hn2 := List.mem_of_getElem? hn
      have hr : manyR n = true ∧ n ≤ 14 := by
        obtain ⟨r0, r1, r2, r9, r10, r11, r14⟩ := many_right
        simp only [List.mem_cons, List.not_mem_nil, or_false] at hn2
        rcases hn2 with rfl | rfl | rfl | rfl | rfl | rfl | rfl
        · exact ⟨r0, by decide⟩
        · exact ⟨r1, by decide⟩
        · exact ⟨r2, by decide⟩
        · exact ⟨r9, by decide⟩
        · exact ⟨r10, by decide⟩
        · exact ⟨r11, by decide⟩
        · exact ⟨r14, by decide⟩
      refine ⟨rfl, yesY ⟨_, rfl, n, rfl, hr.1, hr.2, fun H12 s12 => ?_⟩⟩
      refine ⟨_, s12 _ _ hv10, sz_lt ?_, upd_new (s10.trans s12) hDc, ?_⟩
      · rw [List.length_map, List.length_replicate]
        omega
      · rw [upd_same, List.replicate_succ', List.map_append]
        rfl
    · rintro H10 ⟨s10, hv10⟩
      refine ⟨Dc, List.replicate 7 true, rfl, SqL.of hv10, ?_⟩
      exact q _

end SY

namespace SY
open PySem PySem.Spec PyProof.Rows L2 XB
open C8 (Cal Mak Met pe_c pe_mk pe_mt pe_mt0 pe_gc)
/-! ### the text by places -/
def top (i : Nat) : Stmt := PySem.Challenge.pw_syncrooms_k04_whole_counted.main.body.getD i (.Pass ⟨0, 0, 0, 0⟩)
abbrev s_is_whole : Stmt := top 2
abbrev s_within : Stmt := top 3
abbrev s_is_pair : Stmt := top 4
abbrev s_first_not_kept : Stmt := top 18
abbrev s_Disk_init : Stmt := inClass (top 19) 0
abbrev s_Disk_rooms : Stmt := inClass (top 19) 1
abbrev s_Disk_lasting : Stmt := inClass (top 19) 2
abbrev s_Disk_lots : Stmt := inClass (top 19) 3
abbrev s_Disk_with_lots : Stmt := inClass (top 19) 4
abbrev s_Disk_shown : Stmt := inClass (top 19) 5
abbrev s_Disk_turn : Stmt := inClass (top 19) 7
abbrev s_Disk_ask_read : Stmt := inClass (top 19) 8
abbrev s_Disk_ask_write : Stmt := inClass (top 19) 9
abbrev s_Disk_ask_barrier : Stmt := inClass (top 19) 10
abbrev s_may_have : Stmt := top 22
abbrev s_Left_init : Stmt := inClass (top 23) 0
abbrev s_Left_shows : Stmt := inClass (top 23) 1
abbrev s_Never_init : Stmt := inClass (top 24) 0
abbrev s_may_be : Stmt := top 27
abbrev s_choices_of : Stmt := top 28
abbrev s_joined : Stmt := top 29
abbrev s_size_of : Stmt := top 30
abbrev s_union : Stmt := top 31
abbrev s_count : Stmt := top 32
abbrev s_Request_init : Stmt := inClass (top 34) 0
abbrev s_Request_is_write : Stmt := inClass (top 34) 1
abbrev s_Queue_init : Stmt := inClass (top 35) 0
abbrev s_Queue_put : Stmt := inClass (top 35) 1
abbrev s_Queue_newest : Stmt := inClass (top 35) 2
abbrev s_Queue_free : Stmt := inClass (top 35) 3
abbrev s_Queue_by_arm : Stmt := inClass (top 35) 4
abbrev s_Queue_choice : Stmt := inClass (top 35) 5
abbrev s_Queue_served : Stmt := inClass (top 35) 6
abbrev s_Frame_init : Stmt := inClass (top 43) 0
abbrev s_Store_init : Stmt := inClass (top 44) 0
abbrev s_Store_check_room : Stmt := inClass (top 44) 1
abbrev s_Store_clean : Stmt := inClass (top 44) 2
abbrev s_Store_leave : Stmt := inClass (top 44) 3
abbrev s_Store_use : Stmt := inClass (top 44) 4
abbrev s_Store_write : Stmt := inClass (top 44) 6
abbrev s_Store_order : Stmt := inClass (top 44) 7
abbrev s_Store_serve : Stmt := inClass (top 44) 8
abbrev s_Store_idle : Stmt := inClass (top 44) 10
abbrev s_Store_rooms : Stmt := inClass (top 44) 14
abbrev s_spot_of : Stmt := top 45
abbrev s__law_cell_at : Stmt := top 47
abbrev s__law_draw : Stmt := top 48
abbrev s__law_number : Stmt := top 49
abbrev s__law_next : Stmt := top 50
abbrev s__law_with : Stmt := top 51
abbrev s__law_may_have : Stmt := top 53
abbrev s__law_led : Stmt := top 56
abbrev s__law_states : Stmt := top 57
abbrev s__law_longer : Stmt := top 58
abbrev s__law_many_right : Stmt := top 59
abbrev s_law : Stmt := top 60
/-! ### the head: facts by names -/
def fa : List He.Fa := [
  .cls "Disk",
  .glo "Disk",
  .noat "Disk" "sure",
  .noat "Disk" "open_lots",
  .noat "Disk" "left",
  .cls "Answer",
  .glo "Answer",
  .cls "Left",
  .glo "Left",
  .noat "Left" "lot",
  .noat "Left" "kept",
  .cls "Never",
  .glo "Never",
  .noat "Never" "missing",
  .cls "Request",
  .glo "Request",
  .noat "Request" "count",
  .noat "Request" "spot",
  .noat "Request" "number",
  .noat "Request" "seen",
  .cls "Queue",
  .glo "Queue",
  .noat "Queue" "patience",
  .noat "Queue" "row",
  .noat "Queue" "put_so_far",
  .noat "Queue" "spot",
  .cls "Frame",
  .glo "Frame",
  .noat "Frame" "spot",
  .noat "Frame" "number",
  .noat "Frame" "dirty",
  .cls "Store",
  .glo "Store",
  .noat "Store" "disk",
  .noat "Store" "most_frames",
  .noat "Store" "most_dirty",
  .noat "Store" "frames",
  .noat "Store" "waiting",
  .glo "is_whole",
  .glo "within",
  .glo "is_pair",
  .glo "first_not_kept",
  .mkr "Disk",
  .meth "Disk" "rooms",
  .meth "Disk" "lasting",
  .meth "Disk" "lots",
  .meth "Disk" "with_lots",
  .meth "Disk" "shown",
  .meth "Disk" "turn",
  .meth "Disk" "ask_read",
  .meth "Disk" "ask_write",
  .meth "Disk" "ask_barrier",
  .glo "may_have",
  .mkr "Left",
  .meth "Left" "shows",
  .mkr "Never",
  .glo "may_be",
  .glo "choices_of",
  .glo "joined",
  .glo "size_of",
  .glo "union",
  .glo "count",
  .mkr "Request",
  .meth "Request" "is_write",
  .mkr "Queue",
  .meth "Queue" "put",
  .meth "Queue" "newest",
  .meth "Queue" "free",
  .meth "Queue" "by_arm",
  .meth "Queue" "choice",
  .meth "Queue" "served",
  .mkr "Frame",
  .mkr "Store",
  .meth "Store" "check_room",
  .meth "Store" "clean",
  .meth "Store" "leave",
  .meth "Store" "use",
  .meth "Store" "write",
  .meth "Store" "order",
  .meth "Store" "serve",
  .meth "Store" "idle",
  .meth "Store" "rooms",
  .glo "spot_of",
  .glo "_law_cell_at",
  .glo "_law_draw",
  .glo "_law_number",
  .glo "_law_next",
  .glo "_law_with",
  .glo "_law_may_have",
  .glo "_law_led",
  .glo "_law_states",
  .glo "_law_longer",
  .glo "_law_many_right",
  .glo "law",
  .glo "RoomError",
  .glo "TooMany",
  .free "ValueError",
  .free "len",
  .free "min",
  .free "max",
  .free "isinstance",
  .free "all",
  .free "any",
  .free "abs",
  .free "list",
  .free "str",
  .free "range",
  .free "enumerate",
  .free "zip",
  .free "sorted",
  .free "int",
  .free "bool",
  .free "tuple",
  .free "dict",
  .free "set",
  .int "MOST_ROOMS" 40,
  .int "MOST_TURNS" 9999,
  .int "MOST_LOTS" 10,
  .int "FRAMES" 4,
  .int "DIRTY" 2,
  .int "PATIENCE" 3,
  .int "MOST_FRAMES" 8,
  .int "MOST_PATIENCE" 40,
  .int "MOST_IDLE" 999]
def d_is_whole : He.DefD := ⟨("is_whole", none), "is_whole", "is_whole", defArgs s_is_whole, defBody s_is_whole, defScope s_is_whole, [], []⟩
def d_within : He.DefD := ⟨("within", none), "within", "within", defArgs s_within, defBody s_within, defScope s_within, [], []⟩
def d_is_pair : He.DefD := ⟨("is_pair", none), "is_pair", "is_pair", defArgs s_is_pair, defBody s_is_pair, defScope s_is_pair, [], []⟩
def d_first_not_kept : He.DefD := ⟨("first_not_kept", none), "first_not_kept", "first_not_kept", defArgs s_first_not_kept, defBody s_first_not_kept, defScope s_first_not_kept, [], []⟩
def d_Disk_init : He.DefD := ⟨("Disk", some "__init__"), "__init__", "Disk.__init__", defArgs s_Disk_init, defBody s_Disk_init, defScope s_Disk_init, [], []⟩
def d_Disk_rooms : He.DefD := ⟨("Disk", some "rooms"), "rooms", "Disk.rooms", defArgs s_Disk_rooms, defBody s_Disk_rooms, defScope s_Disk_rooms, [], []⟩
def d_Disk_lasting : He.DefD := ⟨("Disk", some "lasting"), "lasting", "Disk.lasting", defArgs s_Disk_lasting, defBody s_Disk_lasting, defScope s_Disk_lasting, [], []⟩
def d_Disk_lots : He.DefD := ⟨("Disk", some "lots"), "lots", "Disk.lots", defArgs s_Disk_lots, defBody s_Disk_lots, defScope s_Disk_lots, [], []⟩
def d_Disk_with_lots : He.DefD := ⟨("Disk", some "with_lots"), "with_lots", "Disk.with_lots", defArgs s_Disk_with_lots, defBody s_Disk_with_lots, defScope s_Disk_with_lots, [], []⟩
def d_Disk_shown : He.DefD := ⟨("Disk", some "shown"), "shown", "Disk.shown", defArgs s_Disk_shown, defBody s_Disk_shown, defScope s_Disk_shown, [], []⟩
def d_Disk_turn : He.DefD := ⟨("Disk", some "turn"), "turn", "Disk.turn", defArgs s_Disk_turn, defBody s_Disk_turn, defScope s_Disk_turn, [], []⟩
def d_Disk_ask_read : He.DefD := ⟨("Disk", some "ask_read"), "ask_read", "Disk.ask_read", defArgs s_Disk_ask_read, defBody s_Disk_ask_read, defScope s_Disk_ask_read, [], []⟩
def d_Disk_ask_write : He.DefD := ⟨("Disk", some "ask_write"), "ask_write", "Disk.ask_write", defArgs s_Disk_ask_write, defBody s_Disk_ask_write, defScope s_Disk_ask_write, [], []⟩
def d_Disk_ask_barrier : He.DefD := ⟨("Disk", some "ask_barrier"), "ask_barrier", "Disk.ask_barrier", defArgs s_Disk_ask_barrier, defBody s_Disk_ask_barrier, defScope s_Disk_ask_barrier, [], []⟩
def d_may_have : He.DefD := ⟨("may_have", none), "may_have", "may_have", defArgs s_may_have, defBody s_may_have, defScope s_may_have, [], []⟩
def d_Left_init : He.DefD := ⟨("Left", some "__init__"), "__init__", "Left.__init__", defArgs s_Left_init, defBody s_Left_init, defScope s_Left_init, [], []⟩
def d_Left_shows : He.DefD := ⟨("Left", some "shows"), "shows", "Left.shows", defArgs s_Left_shows, defBody s_Left_shows, defScope s_Left_shows, [], []⟩
def d_Never_init : He.DefD := ⟨("Never", some "__init__"), "__init__", "Never.__init__", defArgs s_Never_init, defBody s_Never_init, defScope s_Never_init, [], []⟩
def d_may_be : He.DefD := ⟨("may_be", none), "may_be", "may_be", defArgs s_may_be, defBody s_may_be, defScope s_may_be, [], []⟩
def d_choices_of : He.DefD := ⟨("choices_of", none), "choices_of", "choices_of", defArgs s_choices_of, defBody s_choices_of, defScope s_choices_of, [], []⟩
def d_joined : He.DefD := ⟨("joined", none), "joined", "joined", defArgs s_joined, defBody s_joined, defScope s_joined, [], []⟩
def d_size_of : He.DefD := ⟨("size_of", none), "size_of", "size_of", defArgs s_size_of, defBody s_size_of, defScope s_size_of, [], []⟩
def d_union : He.DefD := ⟨("union", none), "union", "union", defArgs s_union, defBody s_union, defScope s_union, [], []⟩
def d_count : He.DefD := ⟨("count", none), "count", "count", defArgs s_count, defBody s_count, defScope s_count, [], []⟩
def d_Request_init : He.DefD := ⟨("Request", some "__init__"), "__init__", "Request.__init__", defArgs s_Request_init, defBody s_Request_init, defScope s_Request_init, [], []⟩
def d_Request_is_write : He.DefD := ⟨("Request", some "is_write"), "is_write", "Request.is_write", defArgs s_Request_is_write, defBody s_Request_is_write, defScope s_Request_is_write, [], []⟩
def d_Queue_init : He.DefD := ⟨("Queue", some "__init__"), "__init__", "Queue.__init__", defArgs s_Queue_init, defBody s_Queue_init, defScope s_Queue_init, [], []⟩
def d_Queue_put : He.DefD := ⟨("Queue", some "put"), "put", "Queue.put", defArgs s_Queue_put, defBody s_Queue_put, defScope s_Queue_put, [], []⟩
def d_Queue_newest : He.DefD := ⟨("Queue", some "newest"), "newest", "Queue.newest", defArgs s_Queue_newest, defBody s_Queue_newest, defScope s_Queue_newest, [], []⟩
def d_Queue_free : He.DefD := ⟨("Queue", some "free"), "free", "Queue.free", defArgs s_Queue_free, defBody s_Queue_free, defScope s_Queue_free, [], []⟩
def d_Queue_by_arm : He.DefD := ⟨("Queue", some "by_arm"), "by_arm", "Queue.by_arm", defArgs s_Queue_by_arm, defBody s_Queue_by_arm, defScope s_Queue_by_arm, [], []⟩
def d_Queue_choice : He.DefD := ⟨("Queue", some "choice"), "choice", "Queue.choice", defArgs s_Queue_choice, defBody s_Queue_choice, defScope s_Queue_choice, [], []⟩
def d_Queue_served : He.DefD := ⟨("Queue", some "served"), "served", "Queue.served", defArgs s_Queue_served, defBody s_Queue_served, defScope s_Queue_served, [], []⟩
def d_Frame_init : He.DefD := ⟨("Frame", some "__init__"), "__init__", "Frame.__init__", defArgs s_Frame_init, defBody s_Frame_init, defScope s_Frame_init, [], []⟩
def d_Store_init : He.DefD := ⟨("Store", some "__init__"), "__init__", "Store.__init__", defArgs s_Store_init, defBody s_Store_init, defScope s_Store_init, [], [("frames", .int 4), ("dirty", .int 2), ("patience", .int 3)]⟩
def d_Store_check_room : He.DefD := ⟨("Store", some "check_room"), "check_room", "Store.check_room", defArgs s_Store_check_room, defBody s_Store_check_room, defScope s_Store_check_room, [], []⟩
def d_Store_clean : He.DefD := ⟨("Store", some "clean"), "clean", "Store.clean", defArgs s_Store_clean, defBody s_Store_clean, defScope s_Store_clean, [], []⟩
def d_Store_leave : He.DefD := ⟨("Store", some "leave"), "leave", "Store.leave", defArgs s_Store_leave, defBody s_Store_leave, defScope s_Store_leave, [], []⟩
def d_Store_use : He.DefD := ⟨("Store", some "use"), "use", "Store.use", defArgs s_Store_use, defBody s_Store_use, defScope s_Store_use, [], []⟩
def d_Store_write : He.DefD := ⟨("Store", some "write"), "write", "Store.write", defArgs s_Store_write, defBody s_Store_write, defScope s_Store_write, [], []⟩
def d_Store_order : He.DefD := ⟨("Store", some "order"), "order", "Store.order", defArgs s_Store_order, defBody s_Store_order, defScope s_Store_order, [], []⟩
def d_Store_serve : He.DefD := ⟨("Store", some "serve"), "serve", "Store.serve", defArgs s_Store_serve, defBody s_Store_serve, defScope s_Store_serve, [], []⟩
def d_Store_idle : He.DefD := ⟨("Store", some "idle"), "idle", "Store.idle", defArgs s_Store_idle, defBody s_Store_idle, defScope s_Store_idle, [], [("many", .int 1)]⟩
def d_Store_rooms : He.DefD := ⟨("Store", some "rooms"), "rooms", "Store.rooms", defArgs s_Store_rooms, defBody s_Store_rooms, defScope s_Store_rooms, [], []⟩
def d_spot_of : He.DefD := ⟨("spot_of", none), "spot_of", "spot_of", defArgs s_spot_of, defBody s_spot_of, defScope s_spot_of, [], []⟩
def d__law_cell_at : He.DefD := ⟨("_law_cell_at", none), "_law_cell_at", "_law_cell_at", defArgs s__law_cell_at, defBody s__law_cell_at, defScope s__law_cell_at, [], []⟩
def d__law_draw : He.DefD := ⟨("_law_draw", none), "_law_draw", "_law_draw", defArgs s__law_draw, defBody s__law_draw, defScope s__law_draw, [], []⟩
def d__law_number : He.DefD := ⟨("_law_number", none), "_law_number", "_law_number", defArgs s__law_number, defBody s__law_number, defScope s__law_number, [], []⟩
def d__law_next : He.DefD := ⟨("_law_next", none), "_law_next", "_law_next", defArgs s__law_next, defBody s__law_next, defScope s__law_next, [], []⟩
def d__law_with : He.DefD := ⟨("_law_with", none), "_law_with", "_law_with", defArgs s__law_with, defBody s__law_with, defScope s__law_with, [], []⟩
def d__law_may_have : He.DefD := ⟨("_law_may_have", none), "_law_may_have", "_law_may_have", defArgs s__law_may_have, defBody s__law_may_have, defScope s__law_may_have, [], []⟩
def d__law_led : He.DefD := ⟨("_law_led", none), "_law_led", "_law_led", defArgs s__law_led, defBody s__law_led, defScope s__law_led, [], []⟩
def d__law_states : He.DefD := ⟨("_law_states", none), "_law_states", "_law_states", defArgs s__law_states, defBody s__law_states, defScope s__law_states, [], []⟩
def d__law_longer : He.DefD := ⟨("_law_longer", none), "_law_longer", "_law_longer", defArgs s__law_longer, defBody s__law_longer, defScope s__law_longer, [], []⟩
def d__law_many_right : He.DefD := ⟨("_law_many_right", none), "_law_many_right", "_law_many_right", defArgs s__law_many_right, defBody s__law_many_right, defScope s__law_many_right, [], []⟩
def d_law : He.DefD := ⟨("law", none), "law", "law", defArgs s_law, defBody s_law, defScope s_law, [], []⟩
def fn : List He.DefD := [d_is_whole, d_within, d_is_pair, d_first_not_kept, d_Disk_init, d_Disk_rooms, d_Disk_lasting, d_Disk_lots, d_Disk_with_lots, d_Disk_shown, d_Disk_turn, d_Disk_ask_read, d_Disk_ask_write, d_Disk_ask_barrier, d_may_have, d_Left_init, d_Left_shows, d_Never_init, d_may_be, d_choices_of, d_joined, d_size_of, d_union, d_count, d_Request_init, d_Request_is_write, d_Queue_init, d_Queue_put, d_Queue_newest, d_Queue_free, d_Queue_by_arm, d_Queue_choice, d_Queue_served, d_Frame_init, d_Store_init, d_Store_check_room, d_Store_clean, d_Store_leave, d_Store_use, d_Store_write, d_Store_order, d_Store_serve, d_Store_idle, d_Store_rooms, d_spot_of, d__law_cell_at, d__law_draw, d__law_number, d__law_next, d__law_with, d__law_may_have, d__law_led, d__law_states, d__law_longer, d__law_many_right, d_law]
def exs : List (PySem.W.Frag → Bool) := [
  fun K => PySem.W.excIn K (He.ga K "TooMany") [.type "ValueError", .type "Exception", .type "BaseException", .type "object"] "ValueError.__new__",
  fun K => PySem.W.keepIn K (.ref (He.ga K "TooMany")),
  fun K => decide (PySem.W.subIn K (.ref (He.ga K "TooMany")) (.type "BaseException") = some true),
  fun K => decide (PySem.W.typeIn K (.ref (He.ga K "TooMany")) = some (.type "type")),
  fun K => decide (PySem.W.kitOne K (.ref (He.ga K "TooMany")) (.ref (He.ga K "TooMany")) = some true),
  fun K => decide (PySem.W.kitOne K (.ref (He.ga K "TooMany")) (.type "ValueError") = some true),
  fun K => decide (PySem.W.exmOne K (.ref (He.ga K "TooMany")) (.ref (He.ga K "RoomError")) = some true),
  fun K => decide (PySem.W.exmOne K (.ref (He.ga K "TooMany")) (.ref (He.ga K "TooMany")) = some true),
  fun K => (decide (PySem.W.findIn K (.ref (He.ga K "TooMany")) "__getattribute__" = some (some (.builtin "BaseException.__getattribute__"))) && (decide (PySem.W.findIn K (.ref (He.ga K "TooMany")) "__getattr__" = some none) && (decide (PySem.W.subIn K (.ref (He.ga K "TooMany")) (.type "BaseException") = some true) && (decide (PySem.W.hasDictIn K (He.ga K "TooMany") = true) && (decide (PySem.W.findIn K (.ref (He.ga K "TooMany")) "__class__" = some (some (.builtin "object.__class__"))) && (decide (PySem.W.specialIn K (.builtin "object.__class__") "__get__" = some (some (.builtin "getset_descriptor.__get__"))) && (decide (PySem.W.takesIn K (.builtin "object.__class__") = some true) && decide (PySem.W.mroIn K (He.ga K "TooMany") (.type "object") = some true)))))))),
  fun K => decide (PySem.W.specialIn K (.ref (He.fAd K ("Queue", some "by_arm"))) "__get__" = some (some (.builtin "function.__get__"))) && (decide (PySem.W.takesIn K (.ref (He.fAd K ("Queue", some "by_arm"))) = some false) && PySem.W.fnIn K (He.fAd K ("Queue", some "by_arm"))),
  fun K => decide (PySem.W.findIn K (.ref (He.ga K "Disk")) "__class__" = some (some (.builtin "object.__class__"))) && (decide (PySem.W.specialIn K (.builtin "object.__class__") "__get__" = some (some (.builtin "getset_descriptor.__get__"))) && (decide (PySem.W.takesIn K (.builtin "object.__class__") = some true) && decide (PySem.W.mroIn K (He.ga K "Disk") (.type "object") = some true))),
  fun K => decide (PySem.W.kitOne K (.ref (He.ga K "Disk")) (.ref (He.ga K "Disk")) = some true),
  fun K => decide (PySem.W.findIn K (.ref (He.ga K "Left")) "__class__" = some (some (.builtin "object.__class__"))) && (decide (PySem.W.specialIn K (.builtin "object.__class__") "__get__" = some (some (.builtin "getset_descriptor.__get__"))) && (decide (PySem.W.takesIn K (.builtin "object.__class__") = some true) && decide (PySem.W.mroIn K (He.ga K "Left") (.type "object") = some true))),
  fun K => decide (PySem.W.kitOne K (.ref (He.ga K "Left")) (.ref (He.ga K "Left")) = some true),
  fun K => decide (PySem.W.findIn K (.ref (He.ga K "Never")) "__class__" = some (some (.builtin "object.__class__"))) && (decide (PySem.W.specialIn K (.builtin "object.__class__") "__get__" = some (some (.builtin "getset_descriptor.__get__"))) && (decide (PySem.W.takesIn K (.builtin "object.__class__") = some true) && decide (PySem.W.mroIn K (He.ga K "Never") (.type "object") = some true))),
  fun K => decide (PySem.W.kitOne K (.ref (He.ga K "Never")) (.ref (He.ga K "Never")) = some true),
  fun K => decide (PySem.W.findIn K (.ref (He.ga K "Request")) "__class__" = some (some (.builtin "object.__class__"))) && (decide (PySem.W.specialIn K (.builtin "object.__class__") "__get__" = some (some (.builtin "getset_descriptor.__get__"))) && (decide (PySem.W.takesIn K (.builtin "object.__class__") = some true) && decide (PySem.W.mroIn K (He.ga K "Request") (.type "object") = some true))),
  fun K => decide (PySem.W.kitOne K (.ref (He.ga K "Request")) (.ref (He.ga K "Request")) = some true),
  fun K => decide (PySem.W.findIn K (.ref (He.ga K "Queue")) "__class__" = some (some (.builtin "object.__class__"))) && (decide (PySem.W.specialIn K (.builtin "object.__class__") "__get__" = some (some (.builtin "getset_descriptor.__get__"))) && (decide (PySem.W.takesIn K (.builtin "object.__class__") = some true) && decide (PySem.W.mroIn K (He.ga K "Queue") (.type "object") = some true))),
  fun K => decide (PySem.W.kitOne K (.ref (He.ga K "Queue")) (.ref (He.ga K "Queue")) = some true),
  fun K => decide (PySem.W.findIn K (.ref (He.ga K "Frame")) "__class__" = some (some (.builtin "object.__class__"))) && (decide (PySem.W.specialIn K (.builtin "object.__class__") "__get__" = some (some (.builtin "getset_descriptor.__get__"))) && (decide (PySem.W.takesIn K (.builtin "object.__class__") = some true) && decide (PySem.W.mroIn K (He.ga K "Frame") (.type "object") = some true))),
  fun K => decide (PySem.W.kitOne K (.ref (He.ga K "Frame")) (.ref (He.ga K "Frame")) = some true),
  fun K => decide (PySem.W.findIn K (.ref (He.ga K "Store")) "__class__" = some (some (.builtin "object.__class__"))) && (decide (PySem.W.specialIn K (.builtin "object.__class__") "__get__" = some (some (.builtin "getset_descriptor.__get__"))) && (decide (PySem.W.takesIn K (.builtin "object.__class__") = some true) && decide (PySem.W.mroIn K (He.ga K "Store") (.type "object") = some true))),
  fun K => decide (PySem.W.kitOne K (.ref (He.ga K "Store")) (.ref (He.ga K "Store")) = some true),
  fun K => decide (PySem.W.kitOne K (.ref (He.ga K "Left")) (.ref (He.ga K "Never")) = some false),
  fun K => decide (PySem.W.kitOne K (.ref (He.ga K "Left")) (.ref (He.ga K "Answer")) = some true),
  fun K => decide (PySem.W.kitOne K (.ref (He.ga K "Never")) (.ref (He.ga K "Left")) = some false),
  fun K => decide (PySem.W.kitOne K (.ref (He.ga K "Never")) (.ref (He.ga K "Answer")) = some true),
  fun K => decide (He.ga K "Disk" ≠ He.ga K "Left"),
  fun K => decide (He.ga K "Disk" ≠ He.ga K "Never"),
  fun K => decide (He.ga K "Left" ≠ He.ga K "Never"),
  fun K => decide (He.ga K "Disk" ≠ He.ga K "Request"),
  fun K => decide (He.ga K "Left" ≠ He.ga K "Request"),
  fun K => decide (He.ga K "Never" ≠ He.ga K "Request"),
  fun K => decide (He.ga K "Disk" ≠ He.ga K "Queue"),
  fun K => decide (He.ga K "Left" ≠ He.ga K "Queue"),
  fun K => decide (He.ga K "Never" ≠ He.ga K "Queue"),
  fun K => decide (He.ga K "Request" ≠ He.ga K "Queue"),
  fun K => decide (He.ga K "Disk" ≠ He.ga K "Frame"),
  fun K => decide (He.ga K "Left" ≠ He.ga K "Frame"),
  fun K => decide (He.ga K "Never" ≠ He.ga K "Frame"),
  fun K => decide (He.ga K "Request" ≠ He.ga K "Frame"),
  fun K => decide (He.ga K "Queue" ≠ He.ga K "Frame"),
  fun K => decide (He.ga K "Disk" ≠ He.ga K "Store"),
  fun K => decide (He.ga K "Left" ≠ He.ga K "Store"),
  fun K => decide (He.ga K "Never" ≠ He.ga K "Store"),
  fun K => decide (He.ga K "Request" ≠ He.ga K "Store"),
  fun K => decide (He.ga K "Queue" ≠ He.ga K "Store"),
  fun K => decide (He.ga K "Frame" ≠ He.ga K "Store")]
def okM (K : PySem.W.Frag) : Bool := (fa.all fun f => f.ok K) && ((fn.all fun d => d.ok K) && exs.all fun f => f K)
abbrev AlM : Type := Bool × List He.FnW
def obsM (K : PySem.W.Frag) : AlM := (okM K, fn.map fun d => He.fnW K d.at_)
def Says (K : PySem.W.Frag) : Prop := obsM K = (true, fn.map He.DefD.val)
def obsG (g : Addr → Option Obj) : AlM := obsM (He.frG g (He.asD g 4))
def hk : PySem.W.Hook where
  α := AlM
  obs := fun s => obsG s.heap.get?
  val := fun _ => (true, fn.map He.DefD.val)
  says := fun _ h => ∃ K : PySem.W.Frag, K.In h ∧ Says K
  of := fun _ _ e => ⟨_, He.frG_in, e⟩
  keeps := fun _ _ _ ⟨K, a, c⟩ k => ⟨K, PySem.W.Frag.In.keeps a k, c⟩
theorem obsG_eq {g : Addr → Option Obj} {s : Shared} (h : ∀ a, g a = s.heap.get? a) : obsG g = hk.obs s := by
  rw [show g = s.heap.get? from funext h] <;> rfl
abbrev R : PySem.W.OpenRow := PySem.W.OpenLaw.row PySem.Challenge.rw_syncrooms_k04_whole_counted
def ob (s : PySem.W.SharedT) : AlM := obsG (HandSHeadRun.getT s)
theorem ob_eq (s : PySem.W.SharedT) : ob s = hk.obs s.abs := obsG_eq (HandSHeadRun.getT_eq s)
def nm0 : List Str := ["_wall", "is_whole", "within", "is_pair", "RoomError", "BadDisk", "BadStore", "BadRoom", "BadNumber", "BadState", "TooMany", "Dark", "BadCut", "MOST_ROOMS", "MOST_TURNS", "first_not_kept", "Disk", "Answer", "may_have", "Left", "Never", "MOST_LOTS", "may_be", "choices_of", "joined", "size_of", "union", "count", "Request", "Queue"]
def nm1 : List Str := ["FRAMES", "DIRTY", "PATIENCE", "MOST_FRAMES", "MOST_PATIENCE", "MOST_IDLE", "Frame", "Store", "spot_of", "_law_cell_at", "_law_draw", "_law_number", "_law_next", "_law_with", "_law_all_of", "_law_may_have", "_law_cut", "_law_kept", "_law_led", "_law_states", "_law_longer", "_law_many_right"]
def nms : List Str := nm0 ++ nm1
theorem run (w : World) : HandSHeadRun.RunEq R (PySem.W.view R.prog [60]) hk ob 20000 nms w := by
  intro os
  kernel_rfl
/-! ### the facts -/
structure Tx (K : PySem.W.Frag) (mg : Str → Option Value) : Prop where
  c : Says K
  ex : ∃ h : Heap, K.In h ∧ h.Ns mainGlobals mg
section
variable {K : PySem.W.Frag} {mg : Str → Option Value}
theorem Tx.ok (T : Tx K mg) : okM K = true := congrArg (fun z : AlM => z.1) T.c
theorem Tx.X (T : Tx K mg) : K.In T.ex.choose := T.ex.choose_spec.1
theorem Tx.G (T : Tx K mg) : T.ex.choose.Ns mainGlobals mg := T.ex.choose_spec.2
theorem Tx.fact (T : Tx K mg) (i : Nat) {f : He.Fa} (h : fa[i]? = some f) : f.ok K = true := List.all_eq_true.mp (He.ba T.ok).1 f (List.mem_of_getElem? h)
theorem Tx.extra (T : Tx K mg) (i : Nat) {f : PySem.W.Frag → Bool} (h : exs[i]? = some f) : f K = true := List.all_eq_true.mp (He.ba (He.ba T.ok).2).2 f (List.mem_of_getElem? h)
theorem Tx.def_ (T : Tx K mg) (i : Nat) {d : He.DefD} (h : fn[i]? = some d) : ∃ fd, FunD K d.name d.qual d.params d.body d.scope (d.dvs K) (d.kws K) (He.fAd K d.at_) fd := by
  have e : fn.map (fun d => He.fnW K d.at_) = fn.map He.DefD.val := congrArg (fun z : AlM => z.2) T.c
  have e2 : (fn.map fun d => He.fnW K d.at_)[i]? = (fn.map He.DefD.val)[i]? := by rw [e]
  rw [List.getElem?_map, List.getElem?_map, h] at e2
  exact He.DefD.funD (Option.some.inj e2) (List.all_eq_true.mp (He.ba (He.ba T.ok).2).1 d (List.mem_of_getElem? h))
theorem Tx.cl_Disk (T : Tx K mg) : Cls K (He.ga K "Disk") := He.cls_ok (T.fact 0 (f := .cls "Disk") rfl)
theorem Tx.gl_Disk (T : Tx K mg) : mg "Disk" = some (.ref (He.ga K "Disk")) := He.glo_ok T.X T.G (T.fact 1 (f := .glo "Disk") rfl)
theorem Tx.na_Disk_sure (T : Tx K mg) : NoAttr K (He.ga K "Disk") "sure" := He.noat_ok (T.fact 2 (f := .noat "Disk" "sure") rfl)
theorem Tx.na_Disk_open_lots (T : Tx K mg) : NoAttr K (He.ga K "Disk") "open_lots" := He.noat_ok (T.fact 3 (f := .noat "Disk" "open_lots") rfl)
theorem Tx.na_Disk_left (T : Tx K mg) : NoAttr K (He.ga K "Disk") "left" := He.noat_ok (T.fact 4 (f := .noat "Disk" "left") rfl)
theorem Tx.cl_Answer (T : Tx K mg) : Cls K (He.ga K "Answer") := He.cls_ok (T.fact 5 (f := .cls "Answer") rfl)
theorem Tx.gl_Answer (T : Tx K mg) : mg "Answer" = some (.ref (He.ga K "Answer")) := He.glo_ok T.X T.G (T.fact 6 (f := .glo "Answer") rfl)
theorem Tx.cl_Left (T : Tx K mg) : Cls K (He.ga K "Left") := He.cls_ok (T.fact 7 (f := .cls "Left") rfl)
theorem Tx.gl_Left (T : Tx K mg) : mg "Left" = some (.ref (He.ga K "Left")) := He.glo_ok T.X T.G (T.fact 8 (f := .glo "Left") rfl)
theorem Tx.na_Left_lot (T : Tx K mg) : NoAttr K (He.ga K "Left") "lot" := He.noat_ok (T.fact 9 (f := .noat "Left" "lot") rfl)
theorem Tx.na_Left_kept (T : Tx K mg) : NoAttr K (He.ga K "Left") "kept" := He.noat_ok (T.fact 10 (f := .noat "Left" "kept") rfl)
theorem Tx.cl_Never (T : Tx K mg) : Cls K (He.ga K "Never") := He.cls_ok (T.fact 11 (f := .cls "Never") rfl)
theorem Tx.gl_Never (T : Tx K mg) : mg "Never" = some (.ref (He.ga K "Never")) := He.glo_ok T.X T.G (T.fact 12 (f := .glo "Never") rfl)
theorem Tx.na_Never_missing (T : Tx K mg) : NoAttr K (He.ga K "Never") "missing" := He.noat_ok (T.fact 13 (f := .noat "Never" "missing") rfl)
theorem Tx.cl_Request (T : Tx K mg) : Cls K (He.ga K "Request") := He.cls_ok (T.fact 14 (f := .cls "Request") rfl)
theorem Tx.gl_Request (T : Tx K mg) : mg "Request" = some (.ref (He.ga K "Request")) := He.glo_ok T.X T.G (T.fact 15 (f := .glo "Request") rfl)
theorem Tx.na_Request_count (T : Tx K mg) : NoAttr K (He.ga K "Request") "count" := He.noat_ok (T.fact 16 (f := .noat "Request" "count") rfl)
theorem Tx.na_Request_spot (T : Tx K mg) : NoAttr K (He.ga K "Request") "spot" := He.noat_ok (T.fact 17 (f := .noat "Request" "spot") rfl)
theorem Tx.na_Request_number (T : Tx K mg) : NoAttr K (He.ga K "Request") "number" := He.noat_ok (T.fact 18 (f := .noat "Request" "number") rfl)
theorem Tx.na_Request_seen (T : Tx K mg) : NoAttr K (He.ga K "Request") "seen" := He.noat_ok (T.fact 19 (f := .noat "Request" "seen") rfl)
theorem Tx.cl_Queue (T : Tx K mg) : Cls K (He.ga K "Queue") := He.cls_ok (T.fact 20 (f := .cls "Queue") rfl)
theorem Tx.gl_Queue (T : Tx K mg) : mg "Queue" = some (.ref (He.ga K "Queue")) := He.glo_ok T.X T.G (T.fact 21 (f := .glo "Queue") rfl)
theorem Tx.na_Queue_patience (T : Tx K mg) : NoAttr K (He.ga K "Queue") "patience" := He.noat_ok (T.fact 22 (f := .noat "Queue" "patience") rfl)
theorem Tx.na_Queue_row (T : Tx K mg) : NoAttr K (He.ga K "Queue") "row" := He.noat_ok (T.fact 23 (f := .noat "Queue" "row") rfl)
theorem Tx.na_Queue_put_so_far (T : Tx K mg) : NoAttr K (He.ga K "Queue") "put_so_far" := He.noat_ok (T.fact 24 (f := .noat "Queue" "put_so_far") rfl)
theorem Tx.na_Queue_spot (T : Tx K mg) : NoAttr K (He.ga K "Queue") "spot" := He.noat_ok (T.fact 25 (f := .noat "Queue" "spot") rfl)
theorem Tx.cl_Frame (T : Tx K mg) : Cls K (He.ga K "Frame") := He.cls_ok (T.fact 26 (f := .cls "Frame") rfl)
theorem Tx.gl_Frame (T : Tx K mg) : mg "Frame" = some (.ref (He.ga K "Frame")) := He.glo_ok T.X T.G (T.fact 27 (f := .glo "Frame") rfl)
theorem Tx.na_Frame_spot (T : Tx K mg) : NoAttr K (He.ga K "Frame") "spot" := He.noat_ok (T.fact 28 (f := .noat "Frame" "spot") rfl)
theorem Tx.na_Frame_number (T : Tx K mg) : NoAttr K (He.ga K "Frame") "number" := He.noat_ok (T.fact 29 (f := .noat "Frame" "number") rfl)
theorem Tx.na_Frame_dirty (T : Tx K mg) : NoAttr K (He.ga K "Frame") "dirty" := He.noat_ok (T.fact 30 (f := .noat "Frame" "dirty") rfl)
theorem Tx.cl_Store (T : Tx K mg) : Cls K (He.ga K "Store") := He.cls_ok (T.fact 31 (f := .cls "Store") rfl)
theorem Tx.gl_Store (T : Tx K mg) : mg "Store" = some (.ref (He.ga K "Store")) := He.glo_ok T.X T.G (T.fact 32 (f := .glo "Store") rfl)
theorem Tx.na_Store_disk (T : Tx K mg) : NoAttr K (He.ga K "Store") "disk" := He.noat_ok (T.fact 33 (f := .noat "Store" "disk") rfl)
theorem Tx.na_Store_most_frames (T : Tx K mg) : NoAttr K (He.ga K "Store") "most_frames" := He.noat_ok (T.fact 34 (f := .noat "Store" "most_frames") rfl)
theorem Tx.na_Store_most_dirty (T : Tx K mg) : NoAttr K (He.ga K "Store") "most_dirty" := He.noat_ok (T.fact 35 (f := .noat "Store" "most_dirty") rfl)
theorem Tx.na_Store_frames (T : Tx K mg) : NoAttr K (He.ga K "Store") "frames" := He.noat_ok (T.fact 36 (f := .noat "Store" "frames") rfl)
theorem Tx.na_Store_waiting (T : Tx K mg) : NoAttr K (He.ga K "Store") "waiting" := He.noat_ok (T.fact 37 (f := .noat "Store" "waiting") rfl)
theorem Tx.gl_is_whole (T : Tx K mg) : mg "is_whole" = some (.ref (He.ga K "is_whole")) := He.glo_ok T.X T.G (T.fact 38 (f := .glo "is_whole") rfl)
theorem Tx.gl_within (T : Tx K mg) : mg "within" = some (.ref (He.ga K "within")) := He.glo_ok T.X T.G (T.fact 39 (f := .glo "within") rfl)
theorem Tx.gl_is_pair (T : Tx K mg) : mg "is_pair" = some (.ref (He.ga K "is_pair")) := He.glo_ok T.X T.G (T.fact 40 (f := .glo "is_pair") rfl)
theorem Tx.gl_first_not_kept (T : Tx K mg) : mg "first_not_kept" = some (.ref (He.ga K "first_not_kept")) := He.glo_ok T.X T.G (T.fact 41 (f := .glo "first_not_kept") rfl)
theorem Tx.mk_Disk (T : Tx K mg) : Mk K (He.ga K "Disk") (He.fAd K ("Disk", some "__init__")) := He.mkr_ok (T.fact 42 (f := .mkr "Disk") rfl)
theorem Tx.mt_Disk_rooms (T : Tx K mg) : Meth K (He.ga K "Disk") "rooms" (He.fAd K ("Disk", some "rooms")) := He.meth_ok (T.fact 43 (f := .meth "Disk" "rooms") rfl)
theorem Tx.mt_Disk_lasting (T : Tx K mg) : Meth K (He.ga K "Disk") "lasting" (He.fAd K ("Disk", some "lasting")) := He.meth_ok (T.fact 44 (f := .meth "Disk" "lasting") rfl)
theorem Tx.mt_Disk_lots (T : Tx K mg) : Meth K (He.ga K "Disk") "lots" (He.fAd K ("Disk", some "lots")) := He.meth_ok (T.fact 45 (f := .meth "Disk" "lots") rfl)
theorem Tx.mt_Disk_with_lots (T : Tx K mg) : Meth K (He.ga K "Disk") "with_lots" (He.fAd K ("Disk", some "with_lots")) := He.meth_ok (T.fact 46 (f := .meth "Disk" "with_lots") rfl)
theorem Tx.mt_Disk_shown (T : Tx K mg) : Meth K (He.ga K "Disk") "shown" (He.fAd K ("Disk", some "shown")) := He.meth_ok (T.fact 47 (f := .meth "Disk" "shown") rfl)
theorem Tx.mt_Disk_turn (T : Tx K mg) : Meth K (He.ga K "Disk") "turn" (He.fAd K ("Disk", some "turn")) := He.meth_ok (T.fact 48 (f := .meth "Disk" "turn") rfl)
theorem Tx.mt_Disk_ask_read (T : Tx K mg) : Meth K (He.ga K "Disk") "ask_read" (He.fAd K ("Disk", some "ask_read")) := He.meth_ok (T.fact 49 (f := .meth "Disk" "ask_read") rfl)
theorem Tx.mt_Disk_ask_write (T : Tx K mg) : Meth K (He.ga K "Disk") "ask_write" (He.fAd K ("Disk", some "ask_write")) := He.meth_ok (T.fact 50 (f := .meth "Disk" "ask_write") rfl)
theorem Tx.mt_Disk_ask_barrier (T : Tx K mg) : Meth K (He.ga K "Disk") "ask_barrier" (He.fAd K ("Disk", some "ask_barrier")) := He.meth_ok (T.fact 51 (f := .meth "Disk" "ask_barrier") rfl)
theorem Tx.gl_may_have (T : Tx K mg) : mg "may_have" = some (.ref (He.ga K "may_have")) := He.glo_ok T.X T.G (T.fact 52 (f := .glo "may_have") rfl)
theorem Tx.mk_Left (T : Tx K mg) : Mk K (He.ga K "Left") (He.fAd K ("Left", some "__init__")) := He.mkr_ok (T.fact 53 (f := .mkr "Left") rfl)
theorem Tx.mt_Left_shows (T : Tx K mg) : Meth K (He.ga K "Left") "shows" (He.fAd K ("Left", some "shows")) := He.meth_ok (T.fact 54 (f := .meth "Left" "shows") rfl)
theorem Tx.mk_Never (T : Tx K mg) : Mk K (He.ga K "Never") (He.fAd K ("Never", some "__init__")) := He.mkr_ok (T.fact 55 (f := .mkr "Never") rfl)
theorem Tx.gl_may_be (T : Tx K mg) : mg "may_be" = some (.ref (He.ga K "may_be")) := He.glo_ok T.X T.G (T.fact 56 (f := .glo "may_be") rfl)
theorem Tx.gl_choices_of (T : Tx K mg) : mg "choices_of" = some (.ref (He.ga K "choices_of")) := He.glo_ok T.X T.G (T.fact 57 (f := .glo "choices_of") rfl)
theorem Tx.gl_joined (T : Tx K mg) : mg "joined" = some (.ref (He.ga K "joined")) := He.glo_ok T.X T.G (T.fact 58 (f := .glo "joined") rfl)
theorem Tx.gl_size_of (T : Tx K mg) : mg "size_of" = some (.ref (He.ga K "size_of")) := He.glo_ok T.X T.G (T.fact 59 (f := .glo "size_of") rfl)
theorem Tx.gl_union (T : Tx K mg) : mg "union" = some (.ref (He.ga K "union")) := He.glo_ok T.X T.G (T.fact 60 (f := .glo "union") rfl)
theorem Tx.gl_count (T : Tx K mg) : mg "count" = some (.ref (He.ga K "count")) := He.glo_ok T.X T.G (T.fact 61 (f := .glo "count") rfl)
theorem Tx.mk_Request (T : Tx K mg) : Mk K (He.ga K "Request") (He.fAd K ("Request", some "__init__")) := He.mkr_ok (T.fact 62 (f := .mkr "Request") rfl)
theorem Tx.mt_Request_is_write (T : Tx K mg) : Meth K (He.ga K "Request") "is_write" (He.fAd K ("Request", some "is_write")) := He.meth_ok (T.fact 63 (f := .meth "Request" "is_write") rfl)
theorem Tx.mk_Queue (T : Tx K mg) : Mk K (He.ga K "Queue") (He.fAd K ("Queue", some "__init__")) := He.mkr_ok (T.fact 64 (f := .mkr "Queue") rfl)
theorem Tx.mt_Queue_put (T : Tx K mg) : Meth K (He.ga K "Queue") "put" (He.fAd K ("Queue", some "put")) := He.meth_ok (T.fact 65 (f := .meth "Queue" "put") rfl)
theorem Tx.mt_Queue_newest (T : Tx K mg) : Meth K (He.ga K "Queue") "newest" (He.fAd K ("Queue", some "newest")) := He.meth_ok (T.fact 66 (f := .meth "Queue" "newest") rfl)
theorem Tx.mt_Queue_free (T : Tx K mg) : Meth K (He.ga K "Queue") "free" (He.fAd K ("Queue", some "free")) := He.meth_ok (T.fact 67 (f := .meth "Queue" "free") rfl)
theorem Tx.mt_Queue_by_arm (T : Tx K mg) : Meth K (He.ga K "Queue") "by_arm" (He.fAd K ("Queue", some "by_arm")) := He.meth_ok (T.fact 68 (f := .meth "Queue" "by_arm") rfl)
theorem Tx.mt_Queue_choice (T : Tx K mg) : Meth K (He.ga K "Queue") "choice" (He.fAd K ("Queue", some "choice")) := He.meth_ok (T.fact 69 (f := .meth "Queue" "choice") rfl)
theorem Tx.mt_Queue_served (T : Tx K mg) : Meth K (He.ga K "Queue") "served" (He.fAd K ("Queue", some "served")) := He.meth_ok (T.fact 70 (f := .meth "Queue" "served") rfl)
theorem Tx.mk_Frame (T : Tx K mg) : Mk K (He.ga K "Frame") (He.fAd K ("Frame", some "__init__")) := He.mkr_ok (T.fact 71 (f := .mkr "Frame") rfl)
theorem Tx.mk_Store (T : Tx K mg) : Mk K (He.ga K "Store") (He.fAd K ("Store", some "__init__")) := He.mkr_ok (T.fact 72 (f := .mkr "Store") rfl)
theorem Tx.mt_Store_check_room (T : Tx K mg) : Meth K (He.ga K "Store") "check_room" (He.fAd K ("Store", some "check_room")) := He.meth_ok (T.fact 73 (f := .meth "Store" "check_room") rfl)
theorem Tx.mt_Store_clean (T : Tx K mg) : Meth K (He.ga K "Store") "clean" (He.fAd K ("Store", some "clean")) := He.meth_ok (T.fact 74 (f := .meth "Store" "clean") rfl)
theorem Tx.mt_Store_leave (T : Tx K mg) : Meth K (He.ga K "Store") "leave" (He.fAd K ("Store", some "leave")) := He.meth_ok (T.fact 75 (f := .meth "Store" "leave") rfl)
theorem Tx.mt_Store_use (T : Tx K mg) : Meth K (He.ga K "Store") "use" (He.fAd K ("Store", some "use")) := He.meth_ok (T.fact 76 (f := .meth "Store" "use") rfl)
theorem Tx.mt_Store_write (T : Tx K mg) : Meth K (He.ga K "Store") "write" (He.fAd K ("Store", some "write")) := He.meth_ok (T.fact 77 (f := .meth "Store" "write") rfl)
theorem Tx.mt_Store_order (T : Tx K mg) : Meth K (He.ga K "Store") "order" (He.fAd K ("Store", some "order")) := He.meth_ok (T.fact 78 (f := .meth "Store" "order") rfl)
theorem Tx.mt_Store_serve (T : Tx K mg) : Meth K (He.ga K "Store") "serve" (He.fAd K ("Store", some "serve")) := He.meth_ok (T.fact 79 (f := .meth "Store" "serve") rfl)
theorem Tx.mt_Store_idle (T : Tx K mg) : Meth K (He.ga K "Store") "idle" (He.fAd K ("Store", some "idle")) := He.meth_ok (T.fact 80 (f := .meth "Store" "idle") rfl)
theorem Tx.mt_Store_rooms (T : Tx K mg) : Meth K (He.ga K "Store") "rooms" (He.fAd K ("Store", some "rooms")) := He.meth_ok (T.fact 81 (f := .meth "Store" "rooms") rfl)
theorem Tx.gl_spot_of (T : Tx K mg) : mg "spot_of" = some (.ref (He.ga K "spot_of")) := He.glo_ok T.X T.G (T.fact 82 (f := .glo "spot_of") rfl)
theorem Tx.gl__law_cell_at (T : Tx K mg) : mg "_law_cell_at" = some (.ref (He.ga K "_law_cell_at")) := He.glo_ok T.X T.G (T.fact 83 (f := .glo "_law_cell_at") rfl)
theorem Tx.gl__law_draw (T : Tx K mg) : mg "_law_draw" = some (.ref (He.ga K "_law_draw")) := He.glo_ok T.X T.G (T.fact 84 (f := .glo "_law_draw") rfl)
theorem Tx.gl__law_number (T : Tx K mg) : mg "_law_number" = some (.ref (He.ga K "_law_number")) := He.glo_ok T.X T.G (T.fact 85 (f := .glo "_law_number") rfl)
theorem Tx.gl__law_next (T : Tx K mg) : mg "_law_next" = some (.ref (He.ga K "_law_next")) := He.glo_ok T.X T.G (T.fact 86 (f := .glo "_law_next") rfl)
theorem Tx.gl__law_with (T : Tx K mg) : mg "_law_with" = some (.ref (He.ga K "_law_with")) := He.glo_ok T.X T.G (T.fact 87 (f := .glo "_law_with") rfl)
theorem Tx.gl__law_may_have (T : Tx K mg) : mg "_law_may_have" = some (.ref (He.ga K "_law_may_have")) := He.glo_ok T.X T.G (T.fact 88 (f := .glo "_law_may_have") rfl)
theorem Tx.gl__law_led (T : Tx K mg) : mg "_law_led" = some (.ref (He.ga K "_law_led")) := He.glo_ok T.X T.G (T.fact 89 (f := .glo "_law_led") rfl)
theorem Tx.gl__law_states (T : Tx K mg) : mg "_law_states" = some (.ref (He.ga K "_law_states")) := He.glo_ok T.X T.G (T.fact 90 (f := .glo "_law_states") rfl)
theorem Tx.gl__law_longer (T : Tx K mg) : mg "_law_longer" = some (.ref (He.ga K "_law_longer")) := He.glo_ok T.X T.G (T.fact 91 (f := .glo "_law_longer") rfl)
theorem Tx.gl__law_many_right (T : Tx K mg) : mg "_law_many_right" = some (.ref (He.ga K "_law_many_right")) := He.glo_ok T.X T.G (T.fact 92 (f := .glo "_law_many_right") rfl)
theorem Tx.gl_law (T : Tx K mg) : mg "law" = some (.ref (He.ga K "law")) := He.glo_ok T.X T.G (T.fact 93 (f := .glo "law") rfl)
theorem Tx.gl_RoomError (T : Tx K mg) : mg "RoomError" = some (.ref (He.ga K "RoomError")) := He.glo_ok T.X T.G (T.fact 94 (f := .glo "RoomError") rfl)
theorem Tx.gl_TooMany (T : Tx K mg) : mg "TooMany" = some (.ref (He.ga K "TooMany")) := He.glo_ok T.X T.G (T.fact 95 (f := .glo "TooMany") rfl)
theorem Tx.fr_ValueError (T : Tx K mg) : mg "ValueError" = none := He.free_ok T.X T.G (T.fact 96 (f := .free "ValueError") rfl)
theorem Tx.fr_len (T : Tx K mg) : mg "len" = none := He.free_ok T.X T.G (T.fact 97 (f := .free "len") rfl)
theorem Tx.fr_min (T : Tx K mg) : mg "min" = none := He.free_ok T.X T.G (T.fact 98 (f := .free "min") rfl)
theorem Tx.fr_max (T : Tx K mg) : mg "max" = none := He.free_ok T.X T.G (T.fact 99 (f := .free "max") rfl)
theorem Tx.fr_isinstance (T : Tx K mg) : mg "isinstance" = none := He.free_ok T.X T.G (T.fact 100 (f := .free "isinstance") rfl)
theorem Tx.fr_all (T : Tx K mg) : mg "all" = none := He.free_ok T.X T.G (T.fact 101 (f := .free "all") rfl)
theorem Tx.fr_any (T : Tx K mg) : mg "any" = none := He.free_ok T.X T.G (T.fact 102 (f := .free "any") rfl)
theorem Tx.fr_abs (T : Tx K mg) : mg "abs" = none := He.free_ok T.X T.G (T.fact 103 (f := .free "abs") rfl)
theorem Tx.fr_list (T : Tx K mg) : mg "list" = none := He.free_ok T.X T.G (T.fact 104 (f := .free "list") rfl)
theorem Tx.fr_str (T : Tx K mg) : mg "str" = none := He.free_ok T.X T.G (T.fact 105 (f := .free "str") rfl)
theorem Tx.fr_range (T : Tx K mg) : mg "range" = none := He.free_ok T.X T.G (T.fact 106 (f := .free "range") rfl)
theorem Tx.fr_enumerate (T : Tx K mg) : mg "enumerate" = none := He.free_ok T.X T.G (T.fact 107 (f := .free "enumerate") rfl)
theorem Tx.fr_zip (T : Tx K mg) : mg "zip" = none := He.free_ok T.X T.G (T.fact 108 (f := .free "zip") rfl)
theorem Tx.fr_sorted (T : Tx K mg) : mg "sorted" = none := He.free_ok T.X T.G (T.fact 109 (f := .free "sorted") rfl)
theorem Tx.fr_int (T : Tx K mg) : mg "int" = none := He.free_ok T.X T.G (T.fact 110 (f := .free "int") rfl)
theorem Tx.fr_bool (T : Tx K mg) : mg "bool" = none := He.free_ok T.X T.G (T.fact 111 (f := .free "bool") rfl)
theorem Tx.fr_tuple (T : Tx K mg) : mg "tuple" = none := He.free_ok T.X T.G (T.fact 112 (f := .free "tuple") rfl)
theorem Tx.fr_dict (T : Tx K mg) : mg "dict" = none := He.free_ok T.X T.G (T.fact 113 (f := .free "dict") rfl)
theorem Tx.fr_set (T : Tx K mg) : mg "set" = none := He.free_ok T.X T.G (T.fact 114 (f := .free "set") rfl)
theorem Tx.in_MOST_ROOMS (T : Tx K mg) : ∃ t, mg "MOST_ROOMS" = some (.int 40 t) := He.int_ok T.X T.G (T.fact 115 (f := .int "MOST_ROOMS" 40) rfl)
theorem Tx.in_MOST_TURNS (T : Tx K mg) : ∃ t, mg "MOST_TURNS" = some (.int 9999 t) := He.int_ok T.X T.G (T.fact 116 (f := .int "MOST_TURNS" 9999) rfl)
theorem Tx.in_MOST_LOTS (T : Tx K mg) : ∃ t, mg "MOST_LOTS" = some (.int 10 t) := He.int_ok T.X T.G (T.fact 117 (f := .int "MOST_LOTS" 10) rfl)
theorem Tx.in_FRAMES (T : Tx K mg) : ∃ t, mg "FRAMES" = some (.int 4 t) := He.int_ok T.X T.G (T.fact 118 (f := .int "FRAMES" 4) rfl)
theorem Tx.in_DIRTY (T : Tx K mg) : ∃ t, mg "DIRTY" = some (.int 2 t) := He.int_ok T.X T.G (T.fact 119 (f := .int "DIRTY" 2) rfl)
theorem Tx.in_PATIENCE (T : Tx K mg) : ∃ t, mg "PATIENCE" = some (.int 3 t) := He.int_ok T.X T.G (T.fact 120 (f := .int "PATIENCE" 3) rfl)
theorem Tx.in_MOST_FRAMES (T : Tx K mg) : ∃ t, mg "MOST_FRAMES" = some (.int 8 t) := He.int_ok T.X T.G (T.fact 121 (f := .int "MOST_FRAMES" 8) rfl)
theorem Tx.in_MOST_PATIENCE (T : Tx K mg) : ∃ t, mg "MOST_PATIENCE" = some (.int 40 t) := He.int_ok T.X T.G (T.fact 122 (f := .int "MOST_PATIENCE" 40) rfl)
theorem Tx.in_MOST_IDLE (T : Tx K mg) : ∃ t, mg "MOST_IDLE" = some (.int 999 t) := He.int_ok T.X T.G (T.fact 123 (f := .int "MOST_IDLE" 999) rfl)
theorem Tx.gv_RoomError (T : Tx K mg) : ∃ u, mg "RoomError" = some u ∧ RelV (.ref (He.ga K "RoomError")) u := ⟨_, T.gl_RoomError, rfl⟩
theorem Tx.gv_TooMany (T : Tx K mg) : ∃ u, mg "TooMany" = some u ∧ RelV (.ref (He.ga K "TooMany")) u := ⟨_, T.gl_TooMany, rfl⟩
theorem Tx.gv_Disk (T : Tx K mg) : ∃ u, mg "Disk" = some u ∧ RelV (.ref (He.ga K "Disk")) u := ⟨_, T.gl_Disk, rfl⟩
theorem Tx.gv_Answer (T : Tx K mg) : ∃ u, mg "Answer" = some u ∧ RelV (.ref (He.ga K "Answer")) u := ⟨_, T.gl_Answer, rfl⟩
theorem Tx.gv_Left (T : Tx K mg) : ∃ u, mg "Left" = some u ∧ RelV (.ref (He.ga K "Left")) u := ⟨_, T.gl_Left, rfl⟩
theorem Tx.gv_Never (T : Tx K mg) : ∃ u, mg "Never" = some u ∧ RelV (.ref (He.ga K "Never")) u := ⟨_, T.gl_Never, rfl⟩
theorem Tx.gv_Request (T : Tx K mg) : ∃ u, mg "Request" = some u ∧ RelV (.ref (He.ga K "Request")) u := ⟨_, T.gl_Request, rfl⟩
theorem Tx.gv_Queue (T : Tx K mg) : ∃ u, mg "Queue" = some u ∧ RelV (.ref (He.ga K "Queue")) u := ⟨_, T.gl_Queue, rfl⟩
theorem Tx.gv_Frame (T : Tx K mg) : ∃ u, mg "Frame" = some u ∧ RelV (.ref (He.ga K "Frame")) u := ⟨_, T.gl_Frame, rfl⟩
theorem Tx.gv_Store (T : Tx K mg) : ∃ u, mg "Store" = some u ∧ RelV (.ref (He.ga K "Store")) u := ⟨_, T.gl_Store, rfl⟩
theorem Tx.gv_is_whole (T : Tx K mg) : ∃ u, mg "is_whole" = some u ∧ RelV (.ref (He.ga K "is_whole")) u := ⟨_, T.gl_is_whole, rfl⟩
theorem Tx.gv_within (T : Tx K mg) : ∃ u, mg "within" = some u ∧ RelV (.ref (He.ga K "within")) u := ⟨_, T.gl_within, rfl⟩
theorem Tx.gv_is_pair (T : Tx K mg) : ∃ u, mg "is_pair" = some u ∧ RelV (.ref (He.ga K "is_pair")) u := ⟨_, T.gl_is_pair, rfl⟩
theorem Tx.gv_first_not_kept (T : Tx K mg) : ∃ u, mg "first_not_kept" = some u ∧ RelV (.ref (He.ga K "first_not_kept")) u := ⟨_, T.gl_first_not_kept, rfl⟩
theorem Tx.gv_may_have (T : Tx K mg) : ∃ u, mg "may_have" = some u ∧ RelV (.ref (He.ga K "may_have")) u := ⟨_, T.gl_may_have, rfl⟩
theorem Tx.gv_may_be (T : Tx K mg) : ∃ u, mg "may_be" = some u ∧ RelV (.ref (He.ga K "may_be")) u := ⟨_, T.gl_may_be, rfl⟩
theorem Tx.gv_choices_of (T : Tx K mg) : ∃ u, mg "choices_of" = some u ∧ RelV (.ref (He.ga K "choices_of")) u := ⟨_, T.gl_choices_of, rfl⟩
theorem Tx.gv_joined (T : Tx K mg) : ∃ u, mg "joined" = some u ∧ RelV (.ref (He.ga K "joined")) u := ⟨_, T.gl_joined, rfl⟩
theorem Tx.gv_size_of (T : Tx K mg) : ∃ u, mg "size_of" = some u ∧ RelV (.ref (He.ga K "size_of")) u := ⟨_, T.gl_size_of, rfl⟩
theorem Tx.gv_union (T : Tx K mg) : ∃ u, mg "union" = some u ∧ RelV (.ref (He.ga K "union")) u := ⟨_, T.gl_union, rfl⟩
theorem Tx.gv_count (T : Tx K mg) : ∃ u, mg "count" = some u ∧ RelV (.ref (He.ga K "count")) u := ⟨_, T.gl_count, rfl⟩
theorem Tx.gv_spot_of (T : Tx K mg) : ∃ u, mg "spot_of" = some u ∧ RelV (.ref (He.ga K "spot_of")) u := ⟨_, T.gl_spot_of, rfl⟩
theorem Tx.gv__law_cell_at (T : Tx K mg) : ∃ u, mg "_law_cell_at" = some u ∧ RelV (.ref (He.ga K "_law_cell_at")) u := ⟨_, T.gl__law_cell_at, rfl⟩
theorem Tx.gv__law_draw (T : Tx K mg) : ∃ u, mg "_law_draw" = some u ∧ RelV (.ref (He.ga K "_law_draw")) u := ⟨_, T.gl__law_draw, rfl⟩
theorem Tx.gv__law_number (T : Tx K mg) : ∃ u, mg "_law_number" = some u ∧ RelV (.ref (He.ga K "_law_number")) u := ⟨_, T.gl__law_number, rfl⟩
theorem Tx.gv__law_next (T : Tx K mg) : ∃ u, mg "_law_next" = some u ∧ RelV (.ref (He.ga K "_law_next")) u := ⟨_, T.gl__law_next, rfl⟩
theorem Tx.gv__law_with (T : Tx K mg) : ∃ u, mg "_law_with" = some u ∧ RelV (.ref (He.ga K "_law_with")) u := ⟨_, T.gl__law_with, rfl⟩
theorem Tx.gv__law_may_have (T : Tx K mg) : ∃ u, mg "_law_may_have" = some u ∧ RelV (.ref (He.ga K "_law_may_have")) u := ⟨_, T.gl__law_may_have, rfl⟩
theorem Tx.gv__law_led (T : Tx K mg) : ∃ u, mg "_law_led" = some u ∧ RelV (.ref (He.ga K "_law_led")) u := ⟨_, T.gl__law_led, rfl⟩
theorem Tx.gv__law_states (T : Tx K mg) : ∃ u, mg "_law_states" = some u ∧ RelV (.ref (He.ga K "_law_states")) u := ⟨_, T.gl__law_states, rfl⟩
theorem Tx.gv__law_longer (T : Tx K mg) : ∃ u, mg "_law_longer" = some u ∧ RelV (.ref (He.ga K "_law_longer")) u := ⟨_, T.gl__law_longer, rfl⟩
theorem Tx.gv__law_many_right (T : Tx K mg) : ∃ u, mg "_law_many_right" = some u ∧ RelV (.ref (He.ga K "_law_many_right")) u := ⟨_, T.gl__law_many_right, rfl⟩
theorem Tx.gv_law (T : Tx K mg) : ∃ u, mg "law" = some u ∧ RelV (.ref (He.ga K "law")) u := ⟨_, T.gl_law, rfl⟩
theorem Tx.gc_MOST_ROOMS (T : Tx K mg) : ∃ u, mg "MOST_ROOMS" = some u ∧ RelV (.int 40) u := T.in_MOST_ROOMS.elim fun t e => ⟨_, e, t, rfl⟩
theorem Tx.gc_MOST_TURNS (T : Tx K mg) : ∃ u, mg "MOST_TURNS" = some u ∧ RelV (.int 9999) u := T.in_MOST_TURNS.elim fun t e => ⟨_, e, t, rfl⟩
theorem Tx.gc_MOST_LOTS (T : Tx K mg) : ∃ u, mg "MOST_LOTS" = some u ∧ RelV (.int 10) u := T.in_MOST_LOTS.elim fun t e => ⟨_, e, t, rfl⟩
theorem Tx.gc_FRAMES (T : Tx K mg) : ∃ u, mg "FRAMES" = some u ∧ RelV (.int 4) u := T.in_FRAMES.elim fun t e => ⟨_, e, t, rfl⟩
theorem Tx.gc_DIRTY (T : Tx K mg) : ∃ u, mg "DIRTY" = some u ∧ RelV (.int 2) u := T.in_DIRTY.elim fun t e => ⟨_, e, t, rfl⟩
theorem Tx.gc_PATIENCE (T : Tx K mg) : ∃ u, mg "PATIENCE" = some u ∧ RelV (.int 3) u := T.in_PATIENCE.elim fun t e => ⟨_, e, t, rfl⟩
theorem Tx.gc_MOST_FRAMES (T : Tx K mg) : ∃ u, mg "MOST_FRAMES" = some u ∧ RelV (.int 8) u := T.in_MOST_FRAMES.elim fun t e => ⟨_, e, t, rfl⟩
theorem Tx.gc_MOST_PATIENCE (T : Tx K mg) : ∃ u, mg "MOST_PATIENCE" = some u ∧ RelV (.int 40) u := T.in_MOST_PATIENCE.elim fun t e => ⟨_, e, t, rfl⟩
theorem Tx.gc_MOST_IDLE (T : Tx K mg) : ∃ u, mg "MOST_IDLE" = some u ∧ RelV (.int 999) u := T.in_MOST_IDLE.elim fun t e => ⟨_, e, t, rfl⟩
theorem Tx.xF_TooMany (T : Tx K mg) : PySem.W.excIn K (He.ga K "TooMany") [.type "ValueError", .type "Exception", .type "BaseException", .type "object"] "ValueError.__new__" = true := by
  have h := T.extra 0 (f := fun K => PySem.W.excIn K (He.ga K "TooMany") [.type "ValueError", .type "Exception", .type "BaseException", .type "object"] "ValueError.__new__") rfl
  exact h
theorem Tx.kF_TooMany (T : Tx K mg) : PySem.W.keepIn K (.ref (He.ga K "TooMany")) = true := by
  have h := T.extra 1 (f := fun K => PySem.W.keepIn K (.ref (He.ga K "TooMany"))) rfl
  exact h
theorem Tx.bF_TooMany (T : Tx K mg) : PySem.W.subIn K (.ref (He.ga K "TooMany")) (.type "BaseException") = some true := by
  have h := T.extra 2 (f := fun K => decide (PySem.W.subIn K (.ref (He.ga K "TooMany")) (.type "BaseException") = some true)) rfl
  exact of_decide_eq_true h
theorem Tx.tF_TooMany (T : Tx K mg) : PySem.W.typeIn K (.ref (He.ga K "TooMany")) = some (.type "type") := by
  have h := T.extra 3 (f := fun K => decide (PySem.W.typeIn K (.ref (He.ga K "TooMany")) = some (.type "type"))) rfl
  exact of_decide_eq_true h
theorem Tx.kx_TooMany (T : Tx K mg) : PySem.W.kitOne K (.ref (He.ga K "TooMany")) (.ref (He.ga K "TooMany")) = some true := by
  have h := T.extra 4 (f := fun K => decide (PySem.W.kitOne K (.ref (He.ga K "TooMany")) (.ref (He.ga K "TooMany")) = some true)) rfl
  exact of_decide_eq_true h
theorem Tx.kv_TooMany (T : Tx K mg) : PySem.W.kitOne K (.ref (He.ga K "TooMany")) (.type "ValueError") = some true := by
  have h := T.extra 5 (f := fun K => decide (PySem.W.kitOne K (.ref (He.ga K "TooMany")) (.type "ValueError") = some true)) rfl
  exact of_decide_eq_true h
theorem Tx.em_TooMany_RoomError (T : Tx K mg) : PySem.W.exmOne K (.ref (He.ga K "TooMany")) (.ref (He.ga K "RoomError")) = some true := by
  have h := T.extra 6 (f := fun K => decide (PySem.W.exmOne K (.ref (He.ga K "TooMany")) (.ref (He.ga K "RoomError")) = some true)) rfl
  exact of_decide_eq_true h
theorem Tx.em_TooMany_TooMany (T : Tx K mg) : PySem.W.exmOne K (.ref (He.ga K "TooMany")) (.ref (He.ga K "TooMany")) = some true := by
  have h := T.extra 7 (f := fun K => decide (PySem.W.exmOne K (.ref (He.ga K "TooMany")) (.ref (He.ga K "TooMany")) = some true)) rfl
  exact of_decide_eq_true h
theorem Tx.ec_TooMany (T : Tx K mg) : L2.ExcC K (He.ga K "TooMany") := by
  have h := T.extra 8 (f := fun K => (decide (PySem.W.findIn K (.ref (He.ga K "TooMany")) "__getattribute__" = some (some (.builtin "BaseException.__getattribute__"))) && (decide (PySem.W.findIn K (.ref (He.ga K "TooMany")) "__getattr__" = some none) && (decide (PySem.W.subIn K (.ref (He.ga K "TooMany")) (.type "BaseException") = some true) && (decide (PySem.W.hasDictIn K (He.ga K "TooMany") = true) && (decide (PySem.W.findIn K (.ref (He.ga K "TooMany")) "__class__" = some (some (.builtin "object.__class__"))) && (decide (PySem.W.specialIn K (.builtin "object.__class__") "__get__" = some (some (.builtin "getset_descriptor.__get__"))) && (decide (PySem.W.takesIn K (.builtin "object.__class__") = some true) && decide (PySem.W.mroIn K (He.ga K "TooMany") (.type "object") = some true))))))))) rfl
  exact ⟨of_decide_eq_true (He.ba (h)).1, of_decide_eq_true (He.ba ((He.ba (h)).2)).1, of_decide_eq_true (He.ba ((He.ba ((He.ba (h)).2)).2)).1, of_decide_eq_true (He.ba ((He.ba ((He.ba ((He.ba (h)).2)).2)).2)).1, of_decide_eq_true (He.ba ((He.ba ((He.ba ((He.ba ((He.ba (h)).2)).2)).2)).2)).1, of_decide_eq_true (He.ba ((He.ba ((He.ba ((He.ba ((He.ba ((He.ba (h)).2)).2)).2)).2)).2)).1, of_decide_eq_true (He.ba ((He.ba ((He.ba ((He.ba ((He.ba ((He.ba ((He.ba (h)).2)).2)).2)).2)).2)).2)).1, of_decide_eq_true ((He.ba ((He.ba ((He.ba ((He.ba ((He.ba ((He.ba ((He.ba (h)).2)).2)).2)).2)).2)).2)).2)⟩
theorem Tx.bm_Queue_by_arm (T : Tx K mg) : BMeth K (He.ga K "Queue") "by_arm" (He.fAd K ("Queue", some "by_arm")) := by
  have h := T.extra 9 (f := fun K => decide (PySem.W.specialIn K (.ref (He.fAd K ("Queue", some "by_arm"))) "__get__" = some (some (.builtin "function.__get__"))) && (decide (PySem.W.takesIn K (.ref (He.fAd K ("Queue", some "by_arm"))) = some false) && PySem.W.fnIn K (He.fAd K ("Queue", some "by_arm")))) rfl
  exact ⟨T.mt_Queue_by_arm, of_decide_eq_true (He.ba h).1, of_decide_eq_true (He.ba (He.ba h).2).1, by decide +kernel, (He.ba (He.ba h).2).2⟩
theorem Tx.io_Disk (T : Tx K mg) : XB.InsOk K (He.ga K "Disk") := by
  have h := T.extra 10 (f := fun K => decide (PySem.W.findIn K (.ref (He.ga K "Disk")) "__class__" = some (some (.builtin "object.__class__"))) && (decide (PySem.W.specialIn K (.builtin "object.__class__") "__get__" = some (some (.builtin "getset_descriptor.__get__"))) && (decide (PySem.W.takesIn K (.builtin "object.__class__") = some true) && decide (PySem.W.mroIn K (He.ga K "Disk") (.type "object") = some true)))) rfl
  exact ⟨T.cl_Disk, of_decide_eq_true (He.ba h).1, of_decide_eq_true (He.ba (He.ba h).2).1, of_decide_eq_true (He.ba (He.ba (He.ba h).2).2).1, of_decide_eq_true (He.ba (He.ba (He.ba h).2).2).2⟩
theorem Tx.ki_Disk (T : Tx K mg) : PySem.W.kitOne K (.ref (He.ga K "Disk")) (.ref (He.ga K "Disk")) = some true := by
  have h := T.extra 11 (f := fun K => decide (PySem.W.kitOne K (.ref (He.ga K "Disk")) (.ref (He.ga K "Disk")) = some true)) rfl
  exact of_decide_eq_true h
theorem Tx.io_Left (T : Tx K mg) : XB.InsOk K (He.ga K "Left") := by
  have h := T.extra 12 (f := fun K => decide (PySem.W.findIn K (.ref (He.ga K "Left")) "__class__" = some (some (.builtin "object.__class__"))) && (decide (PySem.W.specialIn K (.builtin "object.__class__") "__get__" = some (some (.builtin "getset_descriptor.__get__"))) && (decide (PySem.W.takesIn K (.builtin "object.__class__") = some true) && decide (PySem.W.mroIn K (He.ga K "Left") (.type "object") = some true)))) rfl
  exact ⟨T.cl_Left, of_decide_eq_true (He.ba h).1, of_decide_eq_true (He.ba (He.ba h).2).1, of_decide_eq_true (He.ba (He.ba (He.ba h).2).2).1, of_decide_eq_true (He.ba (He.ba (He.ba h).2).2).2⟩
theorem Tx.ki_Left (T : Tx K mg) : PySem.W.kitOne K (.ref (He.ga K "Left")) (.ref (He.ga K "Left")) = some true := by
  have h := T.extra 13 (f := fun K => decide (PySem.W.kitOne K (.ref (He.ga K "Left")) (.ref (He.ga K "Left")) = some true)) rfl
  exact of_decide_eq_true h
theorem Tx.io_Never (T : Tx K mg) : XB.InsOk K (He.ga K "Never") := by
  have h := T.extra 14 (f := fun K => decide (PySem.W.findIn K (.ref (He.ga K "Never")) "__class__" = some (some (.builtin "object.__class__"))) && (decide (PySem.W.specialIn K (.builtin "object.__class__") "__get__" = some (some (.builtin "getset_descriptor.__get__"))) && (decide (PySem.W.takesIn K (.builtin "object.__class__") = some true) && decide (PySem.W.mroIn K (He.ga K "Never") (.type "object") = some true)))) rfl
  exact ⟨T.cl_Never, of_decide_eq_true (He.ba h).1, of_decide_eq_true (He.ba (He.ba h).2).1, of_decide_eq_true (He.ba (He.ba (He.ba h).2).2).1, of_decide_eq_true (He.ba (He.ba (He.ba h).2).2).2⟩
theorem Tx.ki_Never (T : Tx K mg) : PySem.W.kitOne K (.ref (He.ga K "Never")) (.ref (He.ga K "Never")) = some true := by
  have h := T.extra 15 (f := fun K => decide (PySem.W.kitOne K (.ref (He.ga K "Never")) (.ref (He.ga K "Never")) = some true)) rfl
  exact of_decide_eq_true h
theorem Tx.io_Request (T : Tx K mg) : XB.InsOk K (He.ga K "Request") := by
  have h := T.extra 16 (f := fun K => decide (PySem.W.findIn K (.ref (He.ga K "Request")) "__class__" = some (some (.builtin "object.__class__"))) && (decide (PySem.W.specialIn K (.builtin "object.__class__") "__get__" = some (some (.builtin "getset_descriptor.__get__"))) && (decide (PySem.W.takesIn K (.builtin "object.__class__") = some true) && decide (PySem.W.mroIn K (He.ga K "Request") (.type "object") = some true)))) rfl
  exact ⟨T.cl_Request, of_decide_eq_true (He.ba h).1, of_decide_eq_true (He.ba (He.ba h).2).1, of_decide_eq_true (He.ba (He.ba (He.ba h).2).2).1, of_decide_eq_true (He.ba (He.ba (He.ba h).2).2).2⟩
theorem Tx.ki_Request (T : Tx K mg) : PySem.W.kitOne K (.ref (He.ga K "Request")) (.ref (He.ga K "Request")) = some true := by
  have h := T.extra 17 (f := fun K => decide (PySem.W.kitOne K (.ref (He.ga K "Request")) (.ref (He.ga K "Request")) = some true)) rfl
  exact of_decide_eq_true h
theorem Tx.io_Queue (T : Tx K mg) : XB.InsOk K (He.ga K "Queue") := by
  have h := T.extra 18 (f := fun K => decide (PySem.W.findIn K (.ref (He.ga K "Queue")) "__class__" = some (some (.builtin "object.__class__"))) && (decide (PySem.W.specialIn K (.builtin "object.__class__") "__get__" = some (some (.builtin "getset_descriptor.__get__"))) && (decide (PySem.W.takesIn K (.builtin "object.__class__") = some true) && decide (PySem.W.mroIn K (He.ga K "Queue") (.type "object") = some true)))) rfl
  exact ⟨T.cl_Queue, of_decide_eq_true (He.ba h).1, of_decide_eq_true (He.ba (He.ba h).2).1, of_decide_eq_true (He.ba (He.ba (He.ba h).2).2).1, of_decide_eq_true (He.ba (He.ba (He.ba h).2).2).2⟩
theorem Tx.ki_Queue (T : Tx K mg) : PySem.W.kitOne K (.ref (He.ga K "Queue")) (.ref (He.ga K "Queue")) = some true := by
  have h := T.extra 19 (f := fun K => decide (PySem.W.kitOne K (.ref (He.ga K "Queue")) (.ref (He.ga K "Queue")) = some true)) rfl
  exact of_decide_eq_true h
theorem Tx.io_Frame (T : Tx K mg) : XB.InsOk K (He.ga K "Frame") := by
  have h := T.extra 20 (f := fun K => decide (PySem.W.findIn K (.ref (He.ga K "Frame")) "__class__" = some (some (.builtin "object.__class__"))) && (decide (PySem.W.specialIn K (.builtin "object.__class__") "__get__" = some (some (.builtin "getset_descriptor.__get__"))) && (decide (PySem.W.takesIn K (.builtin "object.__class__") = some true) && decide (PySem.W.mroIn K (He.ga K "Frame") (.type "object") = some true)))) rfl
  exact ⟨T.cl_Frame, of_decide_eq_true (He.ba h).1, of_decide_eq_true (He.ba (He.ba h).2).1, of_decide_eq_true (He.ba (He.ba (He.ba h).2).2).1, of_decide_eq_true (He.ba (He.ba (He.ba h).2).2).2⟩
theorem Tx.ki_Frame (T : Tx K mg) : PySem.W.kitOne K (.ref (He.ga K "Frame")) (.ref (He.ga K "Frame")) = some true := by
  have h := T.extra 21 (f := fun K => decide (PySem.W.kitOne K (.ref (He.ga K "Frame")) (.ref (He.ga K "Frame")) = some true)) rfl
  exact of_decide_eq_true h
theorem Tx.io_Store (T : Tx K mg) : XB.InsOk K (He.ga K "Store") := by
  have h := T.extra 22 (f := fun K => decide (PySem.W.findIn K (.ref (He.ga K "Store")) "__class__" = some (some (.builtin "object.__class__"))) && (decide (PySem.W.specialIn K (.builtin "object.__class__") "__get__" = some (some (.builtin "getset_descriptor.__get__"))) && (decide (PySem.W.takesIn K (.builtin "object.__class__") = some true) && decide (PySem.W.mroIn K (He.ga K "Store") (.type "object") = some true)))) rfl
  exact ⟨T.cl_Store, of_decide_eq_true (He.ba h).1, of_decide_eq_true (He.ba (He.ba h).2).1, of_decide_eq_true (He.ba (He.ba (He.ba h).2).2).1, of_decide_eq_true (He.ba (He.ba (He.ba h).2).2).2⟩
theorem Tx.ki_Store (T : Tx K mg) : PySem.W.kitOne K (.ref (He.ga K "Store")) (.ref (He.ga K "Store")) = some true := by
  have h := T.extra 23 (f := fun K => decide (PySem.W.kitOne K (.ref (He.ga K "Store")) (.ref (He.ga K "Store")) = some true)) rfl
  exact of_decide_eq_true h
theorem Tx.ki_Left_Never (T : Tx K mg) : PySem.W.kitOne K (.ref (He.ga K "Left")) (.ref (He.ga K "Never")) = some false := by
  have h := T.extra 24 (f := fun K => decide (PySem.W.kitOne K (.ref (He.ga K "Left")) (.ref (He.ga K "Never")) = some false)) rfl
  exact of_decide_eq_true h
theorem Tx.ki_Left_Answer (T : Tx K mg) : PySem.W.kitOne K (.ref (He.ga K "Left")) (.ref (He.ga K "Answer")) = some true := by
  have h := T.extra 25 (f := fun K => decide (PySem.W.kitOne K (.ref (He.ga K "Left")) (.ref (He.ga K "Answer")) = some true)) rfl
  exact of_decide_eq_true h
theorem Tx.ki_Never_Left (T : Tx K mg) : PySem.W.kitOne K (.ref (He.ga K "Never")) (.ref (He.ga K "Left")) = some false := by
  have h := T.extra 26 (f := fun K => decide (PySem.W.kitOne K (.ref (He.ga K "Never")) (.ref (He.ga K "Left")) = some false)) rfl
  exact of_decide_eq_true h
theorem Tx.ki_Never_Answer (T : Tx K mg) : PySem.W.kitOne K (.ref (He.ga K "Never")) (.ref (He.ga K "Answer")) = some true := by
  have h := T.extra 27 (f := fun K => decide (PySem.W.kitOne K (.ref (He.ga K "Never")) (.ref (He.ga K "Answer")) = some true)) rfl
  exact of_decide_eq_true h
theorem Tx.ne_Disk_Left (T : Tx K mg) : He.ga K "Disk" ≠ He.ga K "Left" := by
  have h := T.extra 28 (f := fun K => decide (He.ga K "Disk" ≠ He.ga K "Left")) rfl
  exact of_decide_eq_true h
theorem Tx.ne_Disk_Never (T : Tx K mg) : He.ga K "Disk" ≠ He.ga K "Never" := by
  have h := T.extra 29 (f := fun K => decide (He.ga K "Disk" ≠ He.ga K "Never")) rfl
  exact of_decide_eq_true h
theorem Tx.ne_Left_Never (T : Tx K mg) : He.ga K "Left" ≠ He.ga K "Never" := by
  have h := T.extra 30 (f := fun K => decide (He.ga K "Left" ≠ He.ga K "Never")) rfl
  exact of_decide_eq_true h
theorem Tx.ne_Disk_Request (T : Tx K mg) : He.ga K "Disk" ≠ He.ga K "Request" := by
  have h := T.extra 31 (f := fun K => decide (He.ga K "Disk" ≠ He.ga K "Request")) rfl
  exact of_decide_eq_true h
theorem Tx.ne_Left_Request (T : Tx K mg) : He.ga K "Left" ≠ He.ga K "Request" := by
  have h := T.extra 32 (f := fun K => decide (He.ga K "Left" ≠ He.ga K "Request")) rfl
  exact of_decide_eq_true h
theorem Tx.ne_Never_Request (T : Tx K mg) : He.ga K "Never" ≠ He.ga K "Request" := by
  have h := T.extra 33 (f := fun K => decide (He.ga K "Never" ≠ He.ga K "Request")) rfl
  exact of_decide_eq_true h
theorem Tx.ne_Disk_Queue (T : Tx K mg) : He.ga K "Disk" ≠ He.ga K "Queue" := by
  have h := T.extra 34 (f := fun K => decide (He.ga K "Disk" ≠ He.ga K "Queue")) rfl
  exact of_decide_eq_true h
theorem Tx.ne_Left_Queue (T : Tx K mg) : He.ga K "Left" ≠ He.ga K "Queue" := by
  have h := T.extra 35 (f := fun K => decide (He.ga K "Left" ≠ He.ga K "Queue")) rfl
  exact of_decide_eq_true h
theorem Tx.ne_Never_Queue (T : Tx K mg) : He.ga K "Never" ≠ He.ga K "Queue" := by
  have h := T.extra 36 (f := fun K => decide (He.ga K "Never" ≠ He.ga K "Queue")) rfl
  exact of_decide_eq_true h
theorem Tx.ne_Request_Queue (T : Tx K mg) : He.ga K "Request" ≠ He.ga K "Queue" := by
  have h := T.extra 37 (f := fun K => decide (He.ga K "Request" ≠ He.ga K "Queue")) rfl
  exact of_decide_eq_true h
theorem Tx.ne_Disk_Frame (T : Tx K mg) : He.ga K "Disk" ≠ He.ga K "Frame" := by
  have h := T.extra 38 (f := fun K => decide (He.ga K "Disk" ≠ He.ga K "Frame")) rfl
  exact of_decide_eq_true h
theorem Tx.ne_Left_Frame (T : Tx K mg) : He.ga K "Left" ≠ He.ga K "Frame" := by
  have h := T.extra 39 (f := fun K => decide (He.ga K "Left" ≠ He.ga K "Frame")) rfl
  exact of_decide_eq_true h
theorem Tx.ne_Never_Frame (T : Tx K mg) : He.ga K "Never" ≠ He.ga K "Frame" := by
  have h := T.extra 40 (f := fun K => decide (He.ga K "Never" ≠ He.ga K "Frame")) rfl
  exact of_decide_eq_true h
theorem Tx.ne_Request_Frame (T : Tx K mg) : He.ga K "Request" ≠ He.ga K "Frame" := by
  have h := T.extra 41 (f := fun K => decide (He.ga K "Request" ≠ He.ga K "Frame")) rfl
  exact of_decide_eq_true h
theorem Tx.ne_Queue_Frame (T : Tx K mg) : He.ga K "Queue" ≠ He.ga K "Frame" := by
  have h := T.extra 42 (f := fun K => decide (He.ga K "Queue" ≠ He.ga K "Frame")) rfl
  exact of_decide_eq_true h
theorem Tx.ne_Disk_Store (T : Tx K mg) : He.ga K "Disk" ≠ He.ga K "Store" := by
  have h := T.extra 43 (f := fun K => decide (He.ga K "Disk" ≠ He.ga K "Store")) rfl
  exact of_decide_eq_true h
theorem Tx.ne_Left_Store (T : Tx K mg) : He.ga K "Left" ≠ He.ga K "Store" := by
  have h := T.extra 44 (f := fun K => decide (He.ga K "Left" ≠ He.ga K "Store")) rfl
  exact of_decide_eq_true h
theorem Tx.ne_Never_Store (T : Tx K mg) : He.ga K "Never" ≠ He.ga K "Store" := by
  have h := T.extra 45 (f := fun K => decide (He.ga K "Never" ≠ He.ga K "Store")) rfl
  exact of_decide_eq_true h
theorem Tx.ne_Request_Store (T : Tx K mg) : He.ga K "Request" ≠ He.ga K "Store" := by
  have h := T.extra 46 (f := fun K => decide (He.ga K "Request" ≠ He.ga K "Store")) rfl
  exact of_decide_eq_true h
theorem Tx.ne_Queue_Store (T : Tx K mg) : He.ga K "Queue" ≠ He.ga K "Store" := by
  have h := T.extra 47 (f := fun K => decide (He.ga K "Queue" ≠ He.ga K "Store")) rfl
  exact of_decide_eq_true h
theorem Tx.ne_Frame_Store (T : Tx K mg) : He.ga K "Frame" ≠ He.ga K "Store" := by
  have h := T.extra 48 (f := fun K => decide (He.ga K "Frame" ≠ He.ga K "Store")) rfl
  exact of_decide_eq_true h
end
theorem mk_pf {K : PySem.W.Frag} {mg : Str → Option Value} (T : Tx K mg) : PFZ K := {
  cl_Disk := T.cl_Disk,
  cl_Request := T.cl_Request,
  cl_Queue := T.cl_Queue,
  cl_Frame := T.cl_Frame,
  cl_Store := T.cl_Store,
  na_Disk_sure := T.na_Disk_sure,
  na_Disk_open_lots := T.na_Disk_open_lots,
  na_Disk_left := T.na_Disk_left,
  na_Request_count := T.na_Request_count,
  na_Request_spot := T.na_Request_spot,
  na_Request_number := T.na_Request_number,
  na_Request_seen := T.na_Request_seen,
  na_Queue_patience := T.na_Queue_patience,
  na_Queue_row := T.na_Queue_row,
  na_Queue_put_so_far := T.na_Queue_put_so_far,
  na_Queue_spot := T.na_Queue_spot,
  na_Frame_spot := T.na_Frame_spot,
  na_Frame_number := T.na_Frame_number,
  na_Frame_dirty := T.na_Frame_dirty,
  na_Store_disk := T.na_Store_disk,
  na_Store_most_frames := T.na_Store_most_frames,
  na_Store_most_dirty := T.na_Store_most_dirty,
  na_Store_frames := T.na_Store_frames,
  na_Store_waiting := T.na_Store_waiting,
  io_Disk := T.io_Disk,
  ki_Disk := T.ki_Disk,
  ne_Disk_Request := T.ne_Disk_Request,
  ne_Disk_Queue := T.ne_Disk_Queue,
  ne_Disk_Frame := T.ne_Disk_Frame,
  ne_Disk_Store := T.ne_Disk_Store,
  ne_Request_Queue := T.ne_Request_Queue,
  ne_Request_Frame := T.ne_Request_Frame,
  ne_Request_Store := T.ne_Request_Store,
  ne_Queue_Frame := T.ne_Queue_Frame,
  ne_Queue_Store := T.ne_Queue_Store,
  ne_Frame_Store := T.ne_Frame_Store,
  cl_Left := T.cl_Left,
  cl_Never := T.cl_Never,
  na_Left_lot := T.na_Left_lot,
  na_Left_kept := T.na_Left_kept,
  na_Never_missing := T.na_Never_missing,
  io_Left := T.io_Left,
  ki_Left := T.ki_Left,
  io_Never := T.io_Never,
  ki_Left_Never := T.ki_Left_Never,
  ki_Left_Answer := T.ki_Left_Answer,
  ki_Never := T.ki_Never,
  ki_Never_Left := T.ki_Never_Left,
  ki_Never_Answer := T.ki_Never_Answer,
  em_TooMany_RoomError := T.em_TooMany_RoomError,
  kx_TooMany := T.kx_TooMany,
  kv_TooMany := T.kv_TooMany }
/-! ### each def, by its body -/
section
variable {P : Program} {w : World} {K : PySem.W.Frag} {mg : Str → Option Value} {base : Heap}
theorem sc_spot_of : FnScope ["frame"] ["frame"] (defScope s_spot_of) := ⟨rfl, rfl, rfl, by decide +kernel, rfl, by decide +kernel, by decide +kernel⟩
theorem ok_spot_of (T : Tx K mg) (pf : PFZ K) : ∃ fd, FunD K "spot_of" "spot_of" (defArgs s_spot_of) (defBody s_spot_of) (defScope s_spot_of) [] [] (He.fAd K ("spot_of", none)) fd ∧ FnOk P w K mg base CX0 1 (He.fAd K ("spot_of", none)) fd ["frame"] (sp_spot_of K) := by
  obtain ⟨fd, F⟩ := T.def_ 44 (d := d_spot_of) rfl
  refine ⟨fd, F, F.ok sc_spot_of len_spot_of (fun cdv A outer s H vs Q E hr h => ⟨t_spot_of K, PSs.nox ?_, pure_spot_of pf.toPF h⟩)⟩
  have nd := (sc_spot_of).nd
  exact (pss_one (ps_ret (pe_fld (pv 0) rfl)))
theorem cal_spot_of (T : Tx K mg) (pf : PFZ K) : Cal P w K mg base 1 "spot_of" (sp_spot_of K) [] := by
  obtain ⟨fd, F, G⟩ := ok_spot_of (P := P) (w := w) (base := base) T pf
  exact ⟨_, fd, _, [], G, T.gl_spot_of, F.kp, F.bindsN fun _ _ _ _ _ _ us hl => match us, hl with | [_], _ => rfl, .nil⟩
theorem sk_spot_of {X : Cx} (T : Tx X.K X.mg) (hr : Room 3 X.A) : CallRK X (.builtin "sorted") [Str.ofString "key"] (rSortKey X.K (He.ga X.K "spot_of") (He.ga X.K "Frame") "spot") := by
  obtain ⟨fd, F⟩ := T.def_ 44 (d := d_spot_of) rfl
  exact call_sortKey F sc_spot_of (F.bindsN fun _ _ _ _ _ _ us hl => match us, hl with | [_], _ => rfl) hr T.cl_Frame T.na_Frame_spot
theorem sc_is_whole : FnScope ["thing"] ["thing"] (defScope s_is_whole) := ⟨rfl, rfl, rfl, by decide +kernel, rfl, by decide +kernel, by decide +kernel⟩
theorem ok_is_whole (T : Tx K mg) (pf : PFZ K) : ∃ fd, FunD K "is_whole" "is_whole" (defArgs s_is_whole) (defBody s_is_whole) (defScope s_is_whole) [] [] (He.fAd K ("is_whole", none)) fd ∧ FnOk P w K mg base CX0 1 (He.fAd K ("is_whole", none)) fd ["thing"] (sp_is_whole K) := by
  obtain ⟨fd, F⟩ := T.def_ 0 (d := d_is_whole) rfl
  refine ⟨fd, F, F.ok sc_is_whole len_is_whole (fun cdv A outer s H vs Q E hr h => ⟨t_is_whole K, PSs.nox ?_, pure_is_whole pf.toPF h⟩)⟩
  have nd := (sc_is_whole).nd
  exact (pss_one (ps_ret (pe_and (pe_callB call_isi rfl T.fr_isinstance boot_isinstance (pa_cons (pv 0) (pa_cons (pe_bltn (v := .ty "int") rfl T.fr_int boot_int rfl) pa_nil))) (pe_one (pe_not (pe_callB call_isi rfl T.fr_isinstance boot_isinstance (pa_cons (pv 0) (pa_cons (pe_bltn (v := .ty "bool") rfl T.fr_bool boot_bool rfl) pa_nil))))))))
theorem cal_is_whole (T : Tx K mg) (pf : PFZ K) : Cal P w K mg base 1 "is_whole" (sp_is_whole K) [] := by
  obtain ⟨fd, F, G⟩ := ok_is_whole (P := P) (w := w) (base := base) T pf
  exact ⟨_, fd, _, [], G, T.gl_is_whole, F.kp, F.bindsN fun _ _ _ _ _ _ us hl => match us, hl with | [_], _ => rfl, .nil⟩
theorem sc_within : FnScope ["thing", "low", "high"] ["thing", "low", "high"] (defScope s_within) := ⟨rfl, rfl, rfl, by decide +kernel, rfl, by decide +kernel, by decide +kernel⟩
theorem ok_within (T : Tx K mg) (pf : PFZ K) : ∃ fd, FunD K "within" "within" (defArgs s_within) (defBody s_within) (defScope s_within) [] [] (He.fAd K ("within", none)) fd ∧ FnOk P w K mg base CX0 2 (He.fAd K ("within", none)) fd ["thing", "low", "high"] (sp_within K) := by
  obtain ⟨fd, F⟩ := T.def_ 1 (d := d_within) rfl
  refine ⟨fd, F, F.ok sc_within len_within (fun cdv A outer s H vs Q E hr h => ⟨t_within K, PSs.nox ?_, pure_within pf.toPF h⟩)⟩
  have nd := (sc_within).nd
  exact (pss_one (ps_ret (pe_and (pe_c (cal_is_whole T pf) hr (by decide) rfl (pa_cons (pv 0) pa_nil)) (pe_one (pe_chain op_le op_le (pv 1) (pv 0) (pv 2))))))
theorem cal_within (T : Tx K mg) (pf : PFZ K) : Cal P w K mg base 2 "within" (sp_within K) [] := by
  obtain ⟨fd, F, G⟩ := ok_within (P := P) (w := w) (base := base) T pf
  exact ⟨_, fd, _, [], G, T.gl_within, F.kp, F.bindsN fun _ _ _ _ _ _ us hl => match us, hl with | [_, _, _], _ => rfl, .nil⟩
theorem sc_is_pair : FnScope ["thing", "rooms"] ["thing", "rooms"] (defScope s_is_pair) := ⟨rfl, rfl, rfl, by decide +kernel, rfl, by decide +kernel, by decide +kernel⟩
theorem ok_is_pair (T : Tx K mg) (pf : PFZ K) : ∃ fd, FunD K "is_pair" "is_pair" (defArgs s_is_pair) (defBody s_is_pair) (defScope s_is_pair) [] [] (He.fAd K ("is_pair", none)) fd ∧ FnOk P w K mg base CX0 3 (He.fAd K ("is_pair", none)) fd ["thing", "rooms"] (sp_is_pair K) := by
  obtain ⟨fd, F⟩ := T.def_ 2 (d := d_is_pair) rfl
  refine ⟨fd, F, F.ok sc_is_pair len_is_pair (fun cdv A outer s H vs Q E hr h => ⟨t_is_pair K, PSs.nox ?_, pure_is_pair pf.toPF h⟩)⟩
  have nd := (sc_is_pair).nd
  exact (pss_one (ps_ret (pe_and (pe_callB call_isi rfl T.fr_isinstance boot_isinstance (pa_cons (pv 0) (pa_cons (pe_bltn (v := .ty "tuple") rfl T.fr_tuple boot_tuple rfl) pa_nil))) (pe_and (pe_cmpR op_eq (pe_callB call_len_seq rfl T.fr_len boot_len (pa_cons (pv 0) pa_nil)) pe_int (nomark _)) (pe_and (pe_c (cal_within T pf) hr (by decide) rfl (pa_cons (pe_ix ix_tup (pv 0) pe_int (fun _ _ => rfl)) (pa_cons pe_int (pa_cons (pe_op op_sub (pv 1) pe_int) pa_nil)))) (pe_one (pe_c (cal_is_whole T pf) hr (by decide) rfl (pa_cons (pe_ix ix_tup (pv 0) pe_int (fun _ _ => rfl)) pa_nil))))))))
theorem cal_is_pair (T : Tx K mg) (pf : PFZ K) : Cal P w K mg base 3 "is_pair" (sp_is_pair K) [] := by
  obtain ⟨fd, F, G⟩ := ok_is_pair (P := P) (w := w) (base := base) T pf
  exact ⟨_, fd, _, [], G, T.gl_is_pair, F.kp, F.bindsN fun _ _ _ _ _ _ us hl => match us, hl with | [_, _], _ => rfl, .nil⟩
theorem sc_first_not_kept : FnScope ["writes", "kept", "rooms", "last", "at", "pair"] ["writes", "kept", "rooms"] (defScope s_first_not_kept) := ⟨rfl, rfl, rfl, by decide +kernel, rfl, by decide +kernel, by decide +kernel⟩
theorem ok_first_not_kept (T : Tx K mg) (pf : PFZ K) : ∃ fd, FunD K "first_not_kept" "first_not_kept" (defArgs s_first_not_kept) (defBody s_first_not_kept) (defScope s_first_not_kept) [] [] (He.fAd K ("first_not_kept", none)) fd ∧ FnOk P w K mg base CX0 4 (He.fAd K ("first_not_kept", none)) fd ["writes", "kept", "rooms"] (sp_first_not_kept K) := by
  obtain ⟨fd, F⟩ := T.def_ 3 (d := d_first_not_kept) rfl
  refine ⟨fd, F, F.ok sc_first_not_kept len_first_not_kept (fun cdv A outer s H vs Q E hr h => ⟨t_first_not_kept K, PSs.nox ?_, pure_first_not_kept pf.toPF h⟩)⟩
  have nd := (sc_first_not_kept).nd
  exact (pss_cons (ps_set (i := 3) nd rfl (by first | exact Or.inl rfl | exact Or.inr rfl) (pe_un un_neg pe_int))
    (pss_cons (ps_for PassesOwn.never rfl (pi_enum rfl T.fr_enumerate (pa_cons (pv 1) pa_nil)) (pg_tup rfl (pgs_cons (pg_name (i := 4) nd rfl (by first | exact Or.inl rfl | exact Or.inr rfl)) (pgs_cons (pg_name (i := 5) nd rfl (by first | exact Or.inl rfl | exact Or.inr rfl)) pgs_nil))) (pss_cons (ps_if (PW.pt (pw_or (pt_not (pt_val (pe_c (cal_is_pair T pf) hr (by decide) rfl (pa_cons (pv 5) (pa_cons (pv 2) pa_nil))))) (pw_or (pt_cmpR op_le (pe_ix ix_tup (pv 5) pe_int (fun _ _ => rfl)) (pv 3) (nomark _)) (pw_or1 (pt_cmpR (op_notInD hr.units65) (pv 5) (pv 0) (by with_unfolding_all rfl)))))) (pss_one (ps_ret (pv 4))) pss_nil)
    (pss_one (ps_set (i := 3) nd rfl (by first | exact Or.inl rfl | exact Or.inr rfl) (pe_ix ix_tup (pv 5) pe_int (fun _ _ => rfl))))))
    (pss_one (ps_ret pe_non))))
theorem cal_first_not_kept (T : Tx K mg) (pf : PFZ K) : Cal P w K mg base 4 "first_not_kept" (sp_first_not_kept K) [] := by
  obtain ⟨fd, F, G⟩ := ok_first_not_kept (P := P) (w := w) (base := base) T pf
  exact ⟨_, fd, _, [], G, T.gl_first_not_kept, F.kp, F.bindsN fun _ _ _ _ _ _ us hl => match us, hl with | [_, _, _], _ => rfl, .nil⟩
theorem sc_Disk_init : FnScope ["self", "rooms"] ["self", "rooms"] (defScope s_Disk_init) := ⟨rfl, rfl, rfl, by decide +kernel, rfl, by decide +kernel, by decide +kernel⟩
theorem ok_Disk_init (T : Tx K mg) (pf : PFZ K) : ∃ fd, FunD K "__init__" "Disk.__init__" (defArgs s_Disk_init) (defBody s_Disk_init) (defScope s_Disk_init) [] [] (He.fAd K ("Disk", some "__init__")) fd ∧ FnOk P w K mg base CX0 3 (He.fAd K ("Disk", some "__init__")) fd ["self", "rooms"] (sp_Disk_init K) := by
  obtain ⟨fd, F⟩ := T.def_ 4 (d := d_Disk_init) rfl
  refine ⟨fd, F, F.ok sc_Disk_init len_Disk_init (fun cdv A outer s H vs Q E hr h => ⟨t_Disk_init K, PSs.nox ?_, pure_Disk_init pf.toPF h⟩)⟩
  have nd := (sc_Disk_init).nd
  exact (pss_cons (ps_if (pt_not (pt_val (pe_c (cal_within T pf) hr (by decide) rfl (pa_cons (pv 1) (pa_cons pe_int (pa_cons (pe_gc rfl (T.gc_MOST_ROOMS)) pa_nil)))))) (pss_one ps_never) pss_nil)
    (pss_cons (ps_fld (pv 0) (pe_op op_rep (pe_lst (pa_cons pe_int pa_nil)) (pv 1)) rfl)
    (pss_cons (ps_fld (pv 0) (pe_lst (pa_cons (pe_lst pa_nil) pa_nil)) rfl)
    (pss_one (ps_fld (pv 0) pe_non rfl)))))
theorem mak_Disk (T : Tx K mg) (pf : PFZ K) : Mak P w K mg base 3 "Disk" (He.ga K "Disk") (sp_Disk_init K) [] := by
  obtain ⟨fd, F, G⟩ := ok_Disk_init (P := P) (w := w) (base := base) T pf
  exact ⟨_, fd, _, [], T.mk_Disk, G, T.gl_Disk, F.bindsN fun _ _ _ _ _ _ us hl => match us, hl with | [_, _], _ => rfl, .nil⟩
theorem sc_Disk_rooms : FnScope ["self"] ["self"] (defScope s_Disk_rooms) := ⟨rfl, rfl, rfl, by decide +kernel, rfl, by decide +kernel, by decide +kernel⟩
theorem ok_Disk_rooms (T : Tx K mg) (pf : PFZ K) : ∃ fd, FunD K "rooms" "Disk.rooms" (defArgs s_Disk_rooms) (defBody s_Disk_rooms) (defScope s_Disk_rooms) [] [] (He.fAd K ("Disk", some "rooms")) fd ∧ FnOk P w K mg base CX0 1 (He.fAd K ("Disk", some "rooms")) fd ["self"] (sp_Disk_rooms K) := by
  obtain ⟨fd, F⟩ := T.def_ 5 (d := d_Disk_rooms) rfl
  refine ⟨fd, F, F.ok sc_Disk_rooms len_Disk_rooms (fun cdv A outer s H vs Q E hr h => ⟨t_Disk_rooms K, PSs.nox ?_, pure_Disk_rooms pf.toPF h⟩)⟩
  have nd := (sc_Disk_rooms).nd
  exact (pss_one (ps_ret (pe_callB call_len_seq rfl T.fr_len boot_len (pa_cons (pe_fld (pv 0) rfl) pa_nil))))
theorem met_Disk_rooms (T : Tx K mg) (pf : PFZ K) : Met P w K mg base 1 (He.ga K "Disk") "rooms" (sp_Disk_rooms K) [] := by
  obtain ⟨fd, F, G⟩ := ok_Disk_rooms (P := P) (w := w) (base := base) T pf
  exact ⟨_, fd, _, [], T.cl_Disk, T.mt_Disk_rooms, G, F.bindsN fun _ _ _ _ _ _ us hl => match us, hl with | [_], _ => rfl, .nil⟩
theorem sc_Disk_lasting : FnScope ["self"] ["self"] (defScope s_Disk_lasting) := ⟨rfl, rfl, rfl, by decide +kernel, rfl, by decide +kernel, by decide +kernel⟩
theorem ok_Disk_lasting (T : Tx K mg) (pf : PFZ K) : ∃ fd, FunD K "lasting" "Disk.lasting" (defArgs s_Disk_lasting) (defBody s_Disk_lasting) (defScope s_Disk_lasting) [] [] (He.fAd K ("Disk", some "lasting")) fd ∧ FnOk P w K mg base CX0 1 (He.fAd K ("Disk", some "lasting")) fd ["self"] (sp_Disk_lasting K) := by
  obtain ⟨fd, F⟩ := T.def_ 6 (d := d_Disk_lasting) rfl
  refine ⟨fd, F, F.ok sc_Disk_lasting len_Disk_lasting (fun cdv A outer s H vs Q E hr h => ⟨t_Disk_lasting K, PSs.nox ?_, pure_Disk_lasting pf.toPF h⟩)⟩
  have nd := (sc_Disk_lasting).nd
  exact (pss_one (ps_ret (pe_callTy call_list_of rfl T.fr_list boot_list (pa_cons (pe_fld (pv 0) rfl) pa_nil))))
theorem met_Disk_lasting (T : Tx K mg) (pf : PFZ K) : Met P w K mg base 1 (He.ga K "Disk") "lasting" (sp_Disk_lasting K) [] := by
  obtain ⟨fd, F, G⟩ := ok_Disk_lasting (P := P) (w := w) (base := base) T pf
  exact ⟨_, fd, _, [], T.cl_Disk, T.mt_Disk_lasting, G, F.bindsN fun _ _ _ _ _ _ us hl => match us, hl with | [_], _ => rfl, .nil⟩
theorem sc_Disk_lots : FnScope ["self", "lot"] ["self"] (defScope s_Disk_lots) := ⟨rfl, rfl, rfl, by decide +kernel, rfl, by decide +kernel, by decide +kernel⟩
theorem ok_Disk_lots (T : Tx K mg) (pf : PFZ K) : ∃ fd, FunD K "lots" "Disk.lots" (defArgs s_Disk_lots) (defBody s_Disk_lots) (defScope s_Disk_lots) [] [] (He.fAd K ("Disk", some "lots")) fd ∧ FnOk P w K mg base CX0 1 (He.fAd K ("Disk", some "lots")) fd ["self"] (sp_Disk_lots K) := by
  obtain ⟨fd, F⟩ := T.def_ 7 (d := d_Disk_lots) rfl
  refine ⟨fd, F, F.ok sc_Disk_lots len_Disk_lots (fun cdv A outer s H vs Q E hr h => ⟨t_Disk_lots K, PSs.nox ?_, pure_Disk_lots pf.toPF h⟩)⟩
  have nd := (sc_Disk_lots).nd
  exact (pss_one (ps_ret (pe_lc (own := [("lot", 1)]) rfl nd (pi_list (pe_fld (pv 0) rfl)) (blkOk_by (N := ["self", "lot"]) (sc := defScope s_Disk_lots) (by decide +kernel)) (fun _ _ _ _ _ => (pg_name (i := 1) nd rfl (by first | exact Or.inl rfl | exact Or.inr rfl))) (fun _ _ _ _ _ => pts_nil) (fun _ _ _ _ _ => (pe_callTy call_list_of rfl T.fr_list boot_list (pa_cons (pv 1) pa_nil))))))
theorem met_Disk_lots (T : Tx K mg) (pf : PFZ K) : Met P w K mg base 1 (He.ga K "Disk") "lots" (sp_Disk_lots K) [] := by
  obtain ⟨fd, F, G⟩ := ok_Disk_lots (P := P) (w := w) (base := base) T pf
  exact ⟨_, fd, _, [], T.cl_Disk, T.mt_Disk_lots, G, F.bindsN fun _ _ _ _ _ _ us hl => match us, hl with | [_], _ => rfl, .nil⟩
theorem sc_Disk_with_lots : FnScope ["self", "many", "found", "room", "number", "lot", "pair"] ["self", "many"] (defScope s_Disk_with_lots) := ⟨rfl, rfl, rfl, by decide +kernel, rfl, by decide +kernel, by decide +kernel⟩
theorem ok_Disk_with_lots (T : Tx K mg) (pf : PFZ K) : ∃ fd, FunD K "with_lots" "Disk.with_lots" (defArgs s_Disk_with_lots) (defBody s_Disk_with_lots) (defScope s_Disk_with_lots) [] [] (He.fAd K ("Disk", some "with_lots")) fd ∧ FnOk P w K mg base CX0 1 (He.fAd K ("Disk", some "with_lots")) fd ["self", "many"] (sp_Disk_with_lots K) := by
  obtain ⟨fd, F⟩ := T.def_ 8 (d := d_Disk_with_lots) rfl
  refine ⟨fd, F, F.ok sc_Disk_with_lots len_Disk_with_lots (fun cdv A outer s H vs Q E hr h => ⟨t_Disk_with_lots K, PSs.nox ?_, pure_Disk_with_lots pf.toPF h⟩)⟩
  have nd := (sc_Disk_with_lots).nd
  exact (pss_cons (ps_set (i := 2) nd rfl (by first | exact Or.inl rfl | exact Or.inr rfl) (pe_callTy call_list_of rfl T.fr_list boot_list (pa_cons (pe_fld (pv 0) rfl) pa_nil)))
    (pss_cons (ps_for PassesOwn.never rfl (pi_list (pe_lc2 (own := [("lot", 5), ("pair", 6)]) (vs1 := [6]) rfl nd (pi_list (pe_slice sl_list (pe_fld (pv 0) rfl) po_none (po_some (pv 1)))) (blkOk_by (N := ["self", "many", "found", "room", "number", "lot", "pair"]) (sc := defScope s_Disk_with_lots) (by decide +kernel)) (by decide) (fun _ _ _ _ _ => (pg_name (i := 5) nd rfl (by first | exact Or.inl rfl | exact Or.inr rfl))) (fun _ _ _ _ _ => pts_nil) (fun _ _ _ _ _ => (pi_list (pv 5))) (fun _ _ _ _ _ => (pg_name (i := 6) nd rfl (by first | exact Or.inl rfl | exact Or.inr rfl))) (fun _ _ _ _ _ => pts_nil) (fun _ _ _ _ _ => (pv 6)))) (pg_tup rfl (pgs_cons (pg_name (i := 3) nd rfl (by first | exact Or.inl rfl | exact Or.inr rfl)) (pgs_cons (pg_name (i := 4) nd rfl (by first | exact Or.inl rfl | exact Or.inr rfl)) pgs_nil))) (pss_one (ps_asg (pv 4) (pg_sub (pv 2) (pv 3) set_list))))
    (pss_one (ps_ret (pv 2)))))
theorem met_Disk_with_lots (T : Tx K mg) (pf : PFZ K) : Met P w K mg base 1 (He.ga K "Disk") "with_lots" (sp_Disk_with_lots K) [] := by
  obtain ⟨fd, F, G⟩ := ok_Disk_with_lots (P := P) (w := w) (base := base) T pf
  exact ⟨_, fd, _, [], T.cl_Disk, T.mt_Disk_with_lots, G, F.bindsN fun _ _ _ _ _ _ us hl => match us, hl with | [_, _], _ => rfl, .nil⟩
theorem sc_Disk_shown : FnScope ["self"] ["self"] (defScope s_Disk_shown) := ⟨rfl, rfl, rfl, by decide +kernel, rfl, by decide +kernel, by decide +kernel⟩
theorem ok_Disk_shown (T : Tx K mg) (pf : PFZ K) : ∃ fd, FunD K "shown" "Disk.shown" (defArgs s_Disk_shown) (defBody s_Disk_shown) (defScope s_Disk_shown) [] [] (He.fAd K ("Disk", some "shown")) fd ∧ FnOk P w K mg base CX0 2 (He.fAd K ("Disk", some "shown")) fd ["self"] (sp_Disk_shown K) := by
  obtain ⟨fd, F⟩ := T.def_ 9 (d := d_Disk_shown) rfl
  refine ⟨fd, F, F.ok sc_Disk_shown len_Disk_shown (fun cdv A outer s H vs Q E hr h => ⟨t_Disk_shown K, PSs.nox ?_, pure_Disk_shown pf.toPF h⟩)⟩
  have nd := (sc_Disk_shown).nd
  exact (pss_one (ps_ret (pe_mt (met_Disk_with_lots T pf) hr (by decide) (pv 0) (pa_cons (pe_callB call_len_seq rfl T.fr_len boot_len (pa_cons (pe_fld (pv 0) rfl) pa_nil)) pa_nil))))
theorem met_Disk_shown (T : Tx K mg) (pf : PFZ K) : Met P w K mg base 2 (He.ga K "Disk") "shown" (sp_Disk_shown K) [] := by
  obtain ⟨fd, F, G⟩ := ok_Disk_shown (P := P) (w := w) (base := base) T pf
  exact ⟨_, fd, _, [], T.cl_Disk, T.mt_Disk_shown, G, F.bindsN fun _ _ _ _ _ _ us hl => match us, hl with | [_], _ => rfl, .nil⟩
theorem sc_Disk_turn : FnScope ["self"] ["self"] (defScope s_Disk_turn) := ⟨rfl, rfl, rfl, by decide +kernel, rfl, by decide +kernel, by decide +kernel⟩
theorem ok_Disk_turn (T : Tx K mg) (pf : PFZ K) : ∃ fd, FunD K "turn" "Disk.turn" (defArgs s_Disk_turn) (defBody s_Disk_turn) (defScope s_Disk_turn) [] [] (He.fAd K ("Disk", some "turn")) fd ∧ FnOk P w K mg base CX0 1 (He.fAd K ("Disk", some "turn")) fd ["self"] (sp_Disk_turn K) := by
  obtain ⟨fd, F⟩ := T.def_ 10 (d := d_Disk_turn) rfl
  refine ⟨fd, F, F.ok sc_Disk_turn len_Disk_turn (fun cdv A outer s H vs Q E hr h => ⟨t_Disk_turn K, PSs.nox ?_, pure_Disk_turn pf.toPF h⟩)⟩
  have nd := (sc_Disk_turn).nd
  exact (pss_cons (ps_if (pt_cmpR op_eq (pe_fld (pv 0) rfl) pe_int (nomark _)) (pss_one ps_never) pss_nil)
    (pss_one (ps_if (pt_cmpR op_notN (pe_fld (pv 0) rfl) pe_non (nomark _)) (pss_one (ps_fldaug (pv 0) pe_int in_sub)) pss_nil)))
theorem met_Disk_turn (T : Tx K mg) (pf : PFZ K) : Met P w K mg base 1 (He.ga K "Disk") "turn" (sp_Disk_turn K) [] := by
  obtain ⟨fd, F, G⟩ := ok_Disk_turn (P := P) (w := w) (base := base) T pf
  exact ⟨_, fd, _, [], T.cl_Disk, T.mt_Disk_turn, G, F.bindsN fun _ _ _ _ _ _ us hl => match us, hl with | [_], _ => rfl, .nil⟩
theorem sc_Disk_ask_read : FnScope ["self", "room"] ["self", "room"] (defScope s_Disk_ask_read) := ⟨rfl, rfl, rfl, by decide +kernel, rfl, by decide +kernel, by decide +kernel⟩
theorem ok_Disk_ask_read (T : Tx K mg) (pf : PFZ K) : ∃ fd, FunD K "ask_read" "Disk.ask_read" (defArgs s_Disk_ask_read) (defBody s_Disk_ask_read) (defScope s_Disk_ask_read) [] [] (He.fAd K ("Disk", some "ask_read")) fd ∧ FnOk P w K mg base CX0 3 (He.fAd K ("Disk", some "ask_read")) fd ["self", "room"] (sp_Disk_ask_read K) := by
  obtain ⟨fd, F⟩ := T.def_ 11 (d := d_Disk_ask_read) rfl
  refine ⟨fd, F, F.ok sc_Disk_ask_read len_Disk_ask_read (fun cdv A outer s H vs Q E hr h => ⟨t_Disk_ask_read K, PSs.nox ?_, pure_Disk_ask_read pf.toPF h⟩)⟩
  have nd := (sc_Disk_ask_read).nd
  exact (pss_cons (ps_expr (pe_mt0 (met_Disk_turn T pf) hr (by decide) (pv 0)))
    (pss_one (ps_ret (pe_ix ix_list (pe_mt0 (met_Disk_shown T pf) hr (by decide) (pv 0)) (pv 1) (fun _ _ => rfl)))))
theorem met_Disk_ask_read (T : Tx K mg) (pf : PFZ K) : Met P w K mg base 3 (He.ga K "Disk") "ask_read" (sp_Disk_ask_read K) [] := by
  obtain ⟨fd, F, G⟩ := ok_Disk_ask_read (P := P) (w := w) (base := base) T pf
  exact ⟨_, fd, _, [], T.cl_Disk, T.mt_Disk_ask_read, G, F.bindsN fun _ _ _ _ _ _ us hl => match us, hl with | [_, _], _ => rfl, .nil⟩
theorem sc_Disk_ask_write : FnScope ["self", "room", "number"] ["self", "room", "number"] (defScope s_Disk_ask_write) := ⟨rfl, rfl, rfl, by decide +kernel, rfl, by decide +kernel, by decide +kernel⟩
theorem ok_Disk_ask_write (T : Tx K mg) (pf : PFZ K) : ∃ fd, FunD K "ask_write" "Disk.ask_write" (defArgs s_Disk_ask_write) (defBody s_Disk_ask_write) (defScope s_Disk_ask_write) [] [] (He.fAd K ("Disk", some "ask_write")) fd ∧ FnOk P w K mg base CX0 2 (He.fAd K ("Disk", some "ask_write")) fd ["self", "room", "number"] (sp_Disk_ask_write K) := by
  obtain ⟨fd, F⟩ := T.def_ 12 (d := d_Disk_ask_write) rfl
  refine ⟨fd, F, F.ok sc_Disk_ask_write len_Disk_ask_write (fun cdv A outer s H vs Q E hr h => ⟨t_Disk_ask_write K, PSs.nox ?_, pure_Disk_ask_write pf.toPF h⟩)⟩
  have nd := (sc_Disk_ask_write).nd
  exact (pss_cons (ps_expr (pe_mt0 (met_Disk_turn T pf) hr (by decide) (pv 0)))
    (pss_one (ps_expr (pe_bm PySem.F.plainAttrs_list PySem.F.slot_list_append PySem.F.type_list_append mt_append (pe_ix ix_list (pe_fld (pv 0) rfl) (pe_un un_neg pe_int) (fun _ _ => rfl)) (pa_cons (pe_tup (pa_cons (pv 1) (pa_cons (pv 2) pa_nil))) pa_nil)))))
theorem met_Disk_ask_write (T : Tx K mg) (pf : PFZ K) : Met P w K mg base 2 (He.ga K "Disk") "ask_write" (sp_Disk_ask_write K) [] := by
  obtain ⟨fd, F, G⟩ := ok_Disk_ask_write (P := P) (w := w) (base := base) T pf
  exact ⟨_, fd, _, [], T.cl_Disk, T.mt_Disk_ask_write, G, F.bindsN fun _ _ _ _ _ _ us hl => match us, hl with | [_, _, _], _ => rfl, .nil⟩
theorem sc_Disk_ask_barrier : FnScope ["self"] ["self"] (defScope s_Disk_ask_barrier) := ⟨rfl, rfl, rfl, by decide +kernel, rfl, by decide +kernel, by decide +kernel⟩
theorem ok_Disk_ask_barrier (T : Tx K mg) (pf : PFZ K) : ∃ fd, FunD K "ask_barrier" "Disk.ask_barrier" (defArgs s_Disk_ask_barrier) (defBody s_Disk_ask_barrier) (defScope s_Disk_ask_barrier) [] [] (He.fAd K ("Disk", some "ask_barrier")) fd ∧ FnOk P w K mg base CX0 2 (He.fAd K ("Disk", some "ask_barrier")) fd ["self"] (sp_Disk_ask_barrier K) := by
  obtain ⟨fd, F⟩ := T.def_ 13 (d := d_Disk_ask_barrier) rfl
  refine ⟨fd, F, F.ok sc_Disk_ask_barrier len_Disk_ask_barrier (fun cdv A outer s H vs Q E hr h => ⟨t_Disk_ask_barrier K, PSs.nox ?_, pure_Disk_ask_barrier pf.toPF h⟩)⟩
  have nd := (sc_Disk_ask_barrier).nd
  exact (pss_cons (ps_expr (pe_mt0 (met_Disk_turn T pf) hr (by decide) (pv 0)))
    (pss_one (ps_expr (pe_bm PySem.F.plainAttrs_list PySem.F.slot_list_append PySem.F.type_list_append mt_append (pe_fld (pv 0) rfl) (pa_cons (pe_lst pa_nil) pa_nil)))))
theorem met_Disk_ask_barrier (T : Tx K mg) (pf : PFZ K) : Met P w K mg base 2 (He.ga K "Disk") "ask_barrier" (sp_Disk_ask_barrier K) [] := by
  obtain ⟨fd, F, G⟩ := ok_Disk_ask_barrier (P := P) (w := w) (base := base) T pf
  exact ⟨_, fd, _, [], T.cl_Disk, T.mt_Disk_ask_barrier, G, F.bindsN fun _ _ _ _ _ _ us hl => match us, hl with | [_], _ => rfl, .nil⟩
theorem sc_may_have : FnScope ["disk", "lot", "room", "here", "number"] ["disk", "lot", "room"] (defScope s_may_have) := ⟨rfl, rfl, rfl, by decide +kernel, rfl, by decide +kernel, by decide +kernel⟩
theorem ok_may_have (T : Tx K mg) (pf : PFZ K) : ∃ fd, FunD K "may_have" "may_have" (defArgs s_may_have) (defBody s_may_have) (defScope s_may_have) [] [] (He.fAd K ("may_have", none)) fd ∧ FnOk P w K mg base CX0 2 (He.fAd K ("may_have", none)) fd ["disk", "lot", "room"] (sp_may_have K) := by
  obtain ⟨fd, F⟩ := T.def_ 14 (d := d_may_have) rfl
  refine ⟨fd, F, F.ok sc_may_have len_may_have (fun cdv A outer s H vs Q E hr h => ⟨t_may_have K, PSs.nox ?_, pure_may_have pf.toPF h⟩)⟩
  have nd := (sc_may_have).nd
  exact (pss_one (ps_ret (pe_op op_cat (pe_lst (pa_cons (pe_ix ix_list (pe_mt (met_Disk_with_lots T pf) hr (by decide) (pv 0) (pa_cons (pv 1) pa_nil)) (pv 2) (fun _ _ => rfl)) pa_nil)) (pe_lc (own := [("here", 3), ("number", 4)]) rfl nd (pi_list (pe_ix ix_list (pe_fld (pv 0) rfl) (pv 1) (fun _ _ => rfl))) (blkOk_by (N := ["disk", "lot", "room", "here", "number"]) (sc := defScope s_may_have) (by decide +kernel)) (fun _ _ _ _ _ => (pg_tup rfl (pgs_cons (pg_name (i := 3) nd rfl (by first | exact Or.inl rfl | exact Or.inr rfl)) (pgs_cons (pg_name (i := 4) nd rfl (by first | exact Or.inl rfl | exact Or.inr rfl)) pgs_nil)))) (fun _ _ _ _ _ => (pts_one (pt_cmpR op_eq (pv 3) (pv 2) (nomark _)))) (fun _ _ _ _ _ => (pv 4))))))
theorem cal_may_have (T : Tx K mg) (pf : PFZ K) : Cal P w K mg base 2 "may_have" (sp_may_have K) [] := by
  obtain ⟨fd, F, G⟩ := ok_may_have (P := P) (w := w) (base := base) T pf
  exact ⟨_, fd, _, [], G, T.gl_may_have, F.kp, F.bindsN fun _ _ _ _ _ _ us hl => match us, hl with | [_, _, _], _ => rfl, .nil⟩
theorem sc_Left_init : FnScope ["self", "lot", "kept"] ["self", "lot", "kept"] (defScope s_Left_init) := ⟨rfl, rfl, rfl, by decide +kernel, rfl, by decide +kernel, by decide +kernel⟩
theorem ok_Left_init (T : Tx K mg) (pf : PFZ K) : ∃ fd, FunD K "__init__" "Left.__init__" (defArgs s_Left_init) (defBody s_Left_init) (defScope s_Left_init) [] [] (He.fAd K ("Left", some "__init__")) fd ∧ FnOk P w K mg base CX0 1 (He.fAd K ("Left", some "__init__")) fd ["self", "lot", "kept"] (sp_Left_init K) := by
  obtain ⟨fd, F⟩ := T.def_ 15 (d := d_Left_init) rfl
  refine ⟨fd, F, F.ok sc_Left_init len_Left_init (fun cdv A outer s H vs Q E hr h => ⟨t_Left_init K, PSs.nox ?_, pure_Left_init pf.toPFA h⟩)⟩
  have nd := (sc_Left_init).nd
  exact (pss_cons (ps_fld (pv 0) (pv 1) rfl)
    (pss_one (ps_fld (pv 0) (pe_callTy call_list_of rfl T.fr_list boot_list (pa_cons (pv 2) pa_nil)) rfl)))
theorem mak_Left (T : Tx K mg) (pf : PFZ K) : Mak P w K mg base 1 "Left" (He.ga K "Left") (sp_Left_init K) [] := by
  obtain ⟨fd, F, G⟩ := ok_Left_init (P := P) (w := w) (base := base) T pf
  exact ⟨_, fd, _, [], T.mk_Left, G, T.gl_Left, F.bindsN fun _ _ _ _ _ _ us hl => match us, hl with | [_, _, _], _ => rfl, .nil⟩
theorem sc_Left_shows : FnScope ["self", "disk", "state", "late", "room", "number"] ["self", "disk", "state"] (defScope s_Left_shows) := ⟨rfl, rfl, rfl, by decide +kernel, rfl, by decide +kernel, by decide +kernel⟩
theorem ok_Left_shows (T : Tx K mg) (pf : PFZ K) : ∃ fd, FunD K "shows" "Left.shows" (defArgs s_Left_shows) (defBody s_Left_shows) (defScope s_Left_shows) [] [] (He.fAd K ("Left", some "shows")) fd ∧ FnOk P w K mg base CX0 5 (He.fAd K ("Left", some "shows")) fd ["self", "disk", "state"] (sp_Left_shows K) := by
  obtain ⟨fd, F⟩ := T.def_ 16 (d := d_Left_shows) rfl
  refine ⟨fd, F, F.ok sc_Left_shows len_Left_shows (fun cdv A outer s H vs Q E hr h => ⟨t_Left_shows K, PSs.nox ?_, pure_Left_shows pf.toPFA h⟩)⟩
  have nd := (sc_Left_shows).nd
  exact (pss_cons (ps_if (pt_not (pt_val (pe_c (cal_within T pf) hr (by decide) rfl (pa_cons (pe_fld (pv 0) rfl) (pa_cons pe_int (pa_cons (pe_op op_sub (pe_callB call_len_seq rfl T.fr_len boot_len (pa_cons (pe_fld (pv 1) rfl) pa_nil)) pe_int) pa_nil)))))) (pss_one (ps_ret pe_bl)) pss_nil)
    (pss_cons (ps_if (pt_cmpR op_notN (pe_c (cal_first_not_kept T pf) hr (by decide) rfl (pa_cons (pe_ix ix_list (pe_fld (pv 1) rfl) (pe_fld (pv 0) rfl) (fun _ _ => rfl)) (pa_cons (pe_fld (pv 0) rfl) (pa_cons (pe_mt0 (met_Disk_rooms T pf) hr (by decide) (pv 1)) pa_nil)))) pe_non (nomark _)) (pss_one (ps_ret pe_bl)) pss_nil)
    (pss_cons (ps_set (i := 3) nd rfl (by first | exact Or.inl rfl | exact Or.inr rfl) (pe_mt (met_Disk_with_lots T pf) hr (by decide) (pv 1) (pa_cons (pe_fld (pv 0) rfl) pa_nil)))
    (pss_cons (ps_for PassesOwn.never rfl (pi_list (pe_fld (pv 0) rfl)) (pg_tup rfl (pgs_cons (pg_name (i := 4) nd rfl (by first | exact Or.inl rfl | exact Or.inr rfl)) (pgs_cons (pg_name (i := 5) nd rfl (by first | exact Or.inl rfl | exact Or.inr rfl)) pgs_nil))) (pss_one (ps_asg (pv 5) (pg_sub (pv 3) (pv 4) set_list))))
    (pss_one (ps_ret (pe_cmpR (op_eqD hr.units) (pv 3) (pv 2) (nomark _))))))))
theorem met_Left_shows (T : Tx K mg) (pf : PFZ K) : Met P w K mg base 5 (He.ga K "Left") "shows" (sp_Left_shows K) [] := by
  obtain ⟨fd, F, G⟩ := ok_Left_shows (P := P) (w := w) (base := base) T pf
  exact ⟨_, fd, _, [], T.cl_Left, T.mt_Left_shows, G, F.bindsN fun _ _ _ _ _ _ us hl => match us, hl with | [_, _, _], _ => rfl, .nil⟩
theorem sc_Never_init : FnScope ["self", "missing"] ["self", "missing"] (defScope s_Never_init) := ⟨rfl, rfl, rfl, by decide +kernel, rfl, by decide +kernel, by decide +kernel⟩
theorem ok_Never_init (T : Tx K mg) (pf : PFZ K) : ∃ fd, FunD K "__init__" "Never.__init__" (defArgs s_Never_init) (defBody s_Never_init) (defScope s_Never_init) [] [] (He.fAd K ("Never", some "__init__")) fd ∧ FnOk P w K mg base CX0 1 (He.fAd K ("Never", some "__init__")) fd ["self", "missing"] (sp_Never_init K) := by
  obtain ⟨fd, F⟩ := T.def_ 17 (d := d_Never_init) rfl
  refine ⟨fd, F, F.ok sc_Never_init len_Never_init (fun cdv A outer s H vs Q E hr h => ⟨t_Never_init K, PSs.nox ?_, pure_Never_init pf.toPFA h⟩)⟩
  have nd := (sc_Never_init).nd
  exact (pss_one (ps_fld (pv 0) (pe_callTy call_list_of rfl T.fr_list boot_list (pa_cons (pv 1) pa_nil)) rfl))
theorem mak_Never (T : Tx K mg) (pf : PFZ K) : Mak P w K mg base 1 "Never" (He.ga K "Never") (sp_Never_init K) [] := by
  obtain ⟨fd, F, G⟩ := ok_Never_init (P := P) (w := w) (base := base) T pf
  exact ⟨_, fd, _, [], T.mk_Never, G, T.gl_Never, F.bindsN fun _ _ _ _ _ _ us hl => match us, hl with | [_, _], _ => rfl, .nil⟩
theorem sc_may_be : FnScope ["disk", "state", "missing", "lot", "wrong", "base", "room", "number"] ["disk", "state"] (defScope s_may_be) := ⟨rfl, rfl, rfl, by decide +kernel, rfl, by decide +kernel, by decide +kernel⟩
theorem ok_may_be (T : Tx K mg) (pf : PFZ K) : ∃ fd, FunD K "may_be" "may_be" (defArgs s_may_be) (defBody s_may_be) (defScope s_may_be) [] [] (He.fAd K ("may_be", none)) fd ∧ FnOk P w K mg base CX0 3 (He.fAd K ("may_be", none)) fd ["disk", "state"] (sp_may_be K) := by
  obtain ⟨fd, F⟩ := T.def_ 18 (d := d_may_be) rfl
  refine ⟨fd, F, F.ok sc_may_be len_may_be (fun cdv A outer s H vs Q E hr h => ⟨t_may_be K, PSs.nox ?_, pure_may_be pf.toPFA h⟩)⟩
  have nd := (sc_may_be).nd
  exact (pss_cons (ps_if (PW.pt (pw_or (pt_not (pt_val (pe_callB call_isi rfl T.fr_isinstance boot_isinstance (pa_cons (pv 1) (pa_cons (pe_bltn (v := .ty "list") rfl T.fr_list boot_list rfl) pa_nil))))) (pw_or (pt_cmpR op_ne (pe_callB call_len_seq rfl T.fr_len boot_len (pa_cons (pv 1) pa_nil)) (pe_mt0 (met_Disk_rooms T pf) hr (by decide) (pv 0)) (nomark _)) (pw_or1 (pt_not (pt_val (pe_callB (cr_all rfl) rfl T.fr_all boot_all (pa_cons (pe_lc (own := [("number", 7)]) rfl nd (pi_list (pv 1)) (blkOk_by (N := ["disk", "state", "missing", "lot", "wrong", "base", "room", "number"]) (sc := defScope s_may_be) (by decide +kernel)) (fun _ _ _ _ _ => (pg_name (i := 7) nd rfl (by first | exact Or.inl rfl | exact Or.inr rfl))) (fun _ _ _ _ _ => pts_nil) (fun _ _ _ _ _ => (pe_c (cal_is_whole T pf) hr (by decide) rfl (pa_cons (pv 7) pa_nil)))) pa_nil)))))))) (pss_one ps_never) pss_nil)
    (pss_cons (ps_set (i := 2) nd rfl (by first | exact Or.inl rfl | exact Or.inr rfl) (pe_lst pa_nil))
    (pss_cons (ps_for PassesOwn.never rfl (pi_range1 rfl T.fr_range (pa_cons (pe_callB call_len_seq rfl T.fr_len boot_len (pa_cons (pe_fld (pv 0) rfl) pa_nil)) pa_nil)) (pg_name (i := 3) nd rfl (by first | exact Or.inl rfl | exact Or.inr rfl)) (pss_cons (ps_setLc (i := 4) (own := [("room", 6), ("number", 7)]) rfl nd rfl rfl (sw_true rfl rfl rfl (by decide +kernel)) (pi_enum rfl T.fr_enumerate (pa_cons (pv 1) pa_nil)) (blkOk_by (N := ["disk", "state", "missing", "lot", "wrong", "base", "room", "number"]) (sc := defScope s_may_be) (by decide +kernel)) (fun _ _ _ _ _ => (pg_tup rfl (pgs_cons (pg_name (i := 6) nd rfl (by first | exact Or.inl rfl | exact Or.inr rfl)) (pgs_cons (pg_name (i := 7) nd rfl (by first | exact Or.inl rfl | exact Or.inr rfl)) pgs_nil)))) (fun _ _ _ _ _ => (pts_one (pt_cmpR op_notIn_seq (pv 7) (pe_c (cal_may_have T pf) hr (by decide) rfl (pa_cons (pv 0) (pa_cons (pv 3) (pa_cons (pv 6) pa_nil)))) (by with_unfolding_all rfl)))) (fun _ _ _ _ _ => (pv 6)))
    (pss_cons (ps_if (pt_cmpR (op_eqE hr.units) (pv 4) (pe_lst pa_nil) (nomark _)) (pss_cons (ps_set (i := 5) nd rfl (by first | exact Or.inl rfl | exact Or.inr rfl) (pe_mt (met_Disk_with_lots T pf) hr (by decide) (pv 0) (pa_cons (pv 3) pa_nil)))
    (pss_one (ps_ret (pe_mk (mak_Left T pf) hr (by decide) rfl (pa_cons (pv 3) (pa_cons (pe_lc (own := [("room", 6), ("number", 7)]) rfl nd (pi_enum rfl T.fr_enumerate (pa_cons (pv 1) pa_nil)) (blkOk_by (N := ["disk", "state", "missing", "lot", "wrong", "base", "room", "number"]) (sc := defScope s_may_be) (by decide +kernel)) (fun _ _ _ _ _ => (pg_tup rfl (pgs_cons (pg_name (i := 6) nd rfl (by first | exact Or.inl rfl | exact Or.inr rfl)) (pgs_cons (pg_name (i := 7) nd rfl (by first | exact Or.inl rfl | exact Or.inr rfl)) pgs_nil)))) (fun _ _ _ _ _ => (pts_one (pt_cmpR op_ne (pv 7) (pe_ix ix_list (pv 5) (pv 6) (fun _ _ => rfl)) (nomark _)))) (fun _ _ _ _ _ => (pe_tup (pa_cons (pv 6) (pa_cons (pv 7) pa_nil))))) pa_nil)))))) pss_nil)
    (pss_one (ps_expr (pe_bm PySem.F.plainAttrs_list PySem.F.slot_list_append PySem.F.type_list_append mt_append (pv 2) (pa_cons (pe_ix ix_list (pv 4) pe_int (fun _ _ => rfl)) pa_nil)))))))
    (pss_one (ps_ret (pe_mk (mak_Never T pf) hr (by decide) rfl (pa_cons (pv 2) pa_nil)))))))
theorem cal_may_be (T : Tx K mg) (pf : PFZ K) : Cal P w K mg base 3 "may_be" (sp_may_be K) [] := by
  obtain ⟨fd, F, G⟩ := ok_may_be (P := P) (w := w) (base := base) T pf
  exact ⟨_, fd, _, [], G, T.gl_may_be, F.kp, F.bindsN fun _ _ _ _ _ _ us hl => match us, hl with | [_, _], _ => rfl, .nil⟩
theorem sc_choices_of : FnScope ["disk", "lot", "room", "number"] ["disk", "lot"] (defScope s_choices_of) := ⟨rfl, rfl, rfl, by decide +kernel, rfl, by decide +kernel, by decide +kernel⟩
theorem ok_choices_of (T : Tx K mg) (pf : PFZ K) : ∃ fd, FunD K "choices_of" "choices_of" (defArgs s_choices_of) (defBody s_choices_of) (defScope s_choices_of) [] [] (He.fAd K ("choices_of", none)) fd ∧ FnOk P w K mg base CX0 3 (He.fAd K ("choices_of", none)) fd ["disk", "lot"] (sp_choices_of K) := by
  obtain ⟨fd, F⟩ := T.def_ 19 (d := d_choices_of) rfl
  refine ⟨fd, F, F.ok sc_choices_of len_choices_of (fun cdv A outer s H vs Q E hr h => ⟨t_choices_of K, PSs.nox ?_, pure_choices_of pf.toPF h⟩)⟩
  have nd := (sc_choices_of).nd
  exact (pss_one (ps_ret (pe_lc (own := [("room", 2)]) rfl nd (pi_range1 rfl T.fr_range (pa_cons (pe_mt0 (met_Disk_rooms T pf) hr (by decide) (pv 0)) pa_nil)) (blkOk_by (N := ["disk", "lot", "room", "number"]) (sc := defScope s_choices_of) (by decide +kernel)) (fun _ _ _ _ _ => (pg_name (i := 2) nd rfl (by first | exact Or.inl rfl | exact Or.inr rfl))) (fun _ _ _ _ _ => pts_nil) (fun _ _ _ _ _ => (pe_dc (own := [("number", 3)]) rfl nd (pi_list (pe_c (cal_may_have T pf) hr (by decide) rfl (pa_cons (pv 0) (pa_cons (pv 1) (pa_cons (pv 2) pa_nil))))) (blkOk_by (N := ["disk", "lot", "room", "number"]) (sc := relS _ (defScope s_choices_of)) (by decide +kernel)) (fun _ _ _ _ _ => (pg_name (i := 3) nd rfl (by first | exact Or.inl rfl | exact Or.inr rfl))) (fun _ _ _ _ _ => pts_nil) (fun _ _ _ _ _ => (pv 3)) (fun _ _ _ _ _ => pe_bl))))))
theorem cal_choices_of (T : Tx K mg) (pf : PFZ K) : Cal P w K mg base 3 "choices_of" (sp_choices_of K) [] := by
  obtain ⟨fd, F, G⟩ := ok_choices_of (P := P) (w := w) (base := base) T pf
  exact ⟨_, fd, _, [], G, T.gl_choices_of, F.kp, F.bindsN fun _ _ _ _ _ _ us hl => match us, hl with | [_, _], _ => rfl, .nil⟩
theorem sc_joined : FnScope ["rows", "others", "mine", "theirs", "number"] ["rows", "others"] (defScope s_joined) := ⟨rfl, rfl, rfl, by decide +kernel, rfl, by decide +kernel, by decide +kernel⟩
theorem ok_joined (T : Tx K mg) (pf : PFZ K) : ∃ fd, FunD K "joined" "joined" (defArgs s_joined) (defBody s_joined) (defScope s_joined) [] [] (He.fAd K ("joined", none)) fd ∧ FnOk P w K mg base CX0 1 (He.fAd K ("joined", none)) fd ["rows", "others"] (sp_joined K) := by
  obtain ⟨fd, F⟩ := T.def_ 20 (d := d_joined) rfl
  refine ⟨fd, F, F.ok sc_joined len_joined (fun cdv A outer s H vs Q E hr h => ⟨t_joined K, PSs.nox ?_, pure_joined pf.toPF h⟩)⟩
  have nd := (sc_joined).nd
  exact (pss_one (ps_ret (pe_lc (own := [("mine", 2), ("theirs", 3)]) rfl nd (pi_zip rfl T.fr_zip (pa_cons (pv 0) (pa_cons (pv 1) pa_nil))) (blkOk_by (N := ["rows", "others", "mine", "theirs", "number"]) (sc := defScope s_joined) (by decide +kernel)) (fun _ _ _ _ _ => (pg_tup rfl (pgs_cons (pg_name (i := 2) nd rfl (by first | exact Or.inl rfl | exact Or.inr rfl)) (pgs_cons (pg_name (i := 3) nd rfl (by first | exact Or.inl rfl | exact Or.inr rfl)) pgs_nil)))) (fun _ _ _ _ _ => pts_nil) (fun _ _ _ _ _ => (pe_lock (pe_dc (own := [("number", 4)]) rfl nd (pi_keys (pv 2)) (blkOk_by (N := ["rows", "others", "mine", "theirs", "number"]) (sc := relS _ (defScope s_joined)) (by decide +kernel)) (fun _ _ _ _ _ => (pg_name (i := 4) nd rfl (by first | exact Or.inl rfl | exact Or.inr rfl))) (fun _ _ _ _ _ => (pts_one (pt_cmp (pc_din (hu_of hr) (pv 4) (pv 3)) (by with_unfolding_all rfl)))) (fun _ _ _ _ _ => (pv 4)) (fun _ _ _ _ _ => pe_bl)))))))
theorem cal_joined (T : Tx K mg) (pf : PFZ K) : Cal P w K mg base 1 "joined" (sp_joined K) [] := by
  obtain ⟨fd, F, G⟩ := ok_joined (P := P) (w := w) (base := base) T pf
  exact ⟨_, fd, _, [], G, T.gl_joined, F.kp, F.bindsN fun _ _ _ _ _ _ us hl => match us, hl with | [_, _], _ => rfl, .nil⟩
theorem sc_size_of : FnScope ["rows", "total", "numbers"] ["rows"] (defScope s_size_of) := ⟨rfl, rfl, rfl, by decide +kernel, rfl, by decide +kernel, by decide +kernel⟩
theorem ok_size_of (T : Tx K mg) (pf : PFZ K) : ∃ fd, FunD K "size_of" "size_of" (defArgs s_size_of) (defBody s_size_of) (defScope s_size_of) [] [] (He.fAd K ("size_of", none)) fd ∧ FnOk P w K mg base CX0 1 (He.fAd K ("size_of", none)) fd ["rows"] (sp_size_of K) := by
  obtain ⟨fd, F⟩ := T.def_ 21 (d := d_size_of) rfl
  refine ⟨fd, F, F.ok sc_size_of len_size_of (fun cdv A outer s H vs Q E hr h => ⟨t_size_of K, PSs.nox ?_, pure_size_of pf.toPF h⟩)⟩
  have nd := (sc_size_of).nd
  exact (pss_cons (ps_set (i := 1) nd rfl (by first | exact Or.inl rfl | exact Or.inr rfl) pe_int)
    (pss_cons (ps_for PassesOwn.never rfl (pi_list (pv 0)) (pg_name (i := 2) nd rfl (by first | exact Or.inl rfl | exact Or.inr rfl)) (pss_one (ps_aug (i := 1) nd rfl (by first | exact Or.inl rfl | exact Or.inr rfl) (pe_callB call_lenD2 rfl T.fr_len boot_len (pa_cons (pv 2) pa_nil)) iop_mul)))
    (pss_one (ps_ret (pv 1)))))
theorem cal_size_of (T : Tx K mg) (pf : PFZ K) : Cal P w K mg base 1 "size_of" (sp_size_of K) [] := by
  obtain ⟨fd, F, G⟩ := ok_size_of (P := P) (w := w) (base := base) T pf
  exact ⟨_, fd, _, [], G, T.gl_size_of, F.kp, F.bindsN fun _ _ _ _ _ _ us hl => match us, hl with | [_], _ => rfl, .nil⟩
theorem sc_union : FnScope ["rows", "lots", "first", "rest", "both"] ["rows", "lots"] (defScope s_union) := ⟨rfl, rfl, rfl, by decide +kernel, rfl, by decide +kernel, by decide +kernel⟩
theorem ok_union (T : Tx K mg) (pf : PFZ K) : ∀ dp : Nat, ∃ fd, FunD K "union" "union" (defArgs s_union) (defBody s_union) (defScope s_union) [] [] (He.fAd K ("union", none)) fd ∧ FnOk P w K mg base CX0 (2 + dp) (He.fAd K ("union", none)) fd ["rows", "lots"] (sp_union dp K)
  | 0 => by
    obtain ⟨fd, F⟩ := T.def_ 22 (d := d_union) rfl
    refine ⟨fd, F, F.ok sc_union (len_union 0) (fun cdv A outer s H vs Q E hr h => ⟨t_union0 K, PSs.nox ?_, pure_union0 pf h⟩)⟩
    have nd := (sc_union).nd
    exact (pss_cons (ps_if (PW.pt (pw_or (pt_cmpR (op_eqE hr.units) (pv 1) (pe_lst pa_nil) (nomark _)) (pw_or1 (pt_cmpR op_eq (pe_c (cal_size_of T pf) hr (by decide) rfl (pa_cons (pv 0) pa_nil)) pe_int (nomark _))))) (pss_one (ps_ret pe_int)) pss_nil)
    (pss_cons (ps_asg (pv 1) (pg_star rfl (pgs_cons (pg_name (i := 2) nd rfl (by first | exact Or.inl rfl | exact Or.inr rfl)) (pgs_star (pg_name (i := 3) nd rfl (by first | exact Or.inl rfl | exact Or.inr rfl)) pgs_nil))))
    (pss_cons (ps_set (i := 4) nd rfl (by first | exact Or.inl rfl | exact Or.inr rfl) (pe_c (cal_joined T pf) hr (by decide) rfl (pa_cons (pv 0) (pa_cons (pv 2) pa_nil))))
    (pss_one ps_never))))
  | dp + 1 => by
    obtain ⟨fd, F⟩ := T.def_ 22 (d := d_union) rfl
    have cr : Cal P w K mg base (2 + dp) "union" (sp_union dp K) [] := by
      obtain ⟨fd, F, G⟩ := ok_union T pf dp
      exact ⟨_, fd, _, [], G, T.gl_union, F.kp, F.bindsN fun _ _ _ _ _ _ us hl => match us, hl with | [_, _], _ => rfl, .nil⟩
    refine ⟨fd, F, F.ok sc_union (len_union (dp + 1)) (fun cdv A outer s H vs Q E hr h => ⟨t_union dp K, PSs.nox ?_, pure_union pf h⟩)⟩
    have nd := (sc_union).nd
    have hr : Room (2 + dp) _ := hr
    exact (pss_cons (ps_if (PW.pt (pw_or (pt_cmpR (op_eqE hr.units) (pv 1) (pe_lst pa_nil) (nomark _)) (pw_or1 (pt_cmpR op_eq (pe_c (cal_size_of T pf) hr (by omega) rfl (pa_cons (pv 0) pa_nil)) pe_int (nomark _))))) (pss_one (ps_ret pe_int)) pss_nil)
    (pss_cons (ps_asg (pv 1) (pg_star rfl (pgs_cons (pg_name (i := 2) nd rfl (by first | exact Or.inl rfl | exact Or.inr rfl)) (pgs_star (pg_name (i := 3) nd rfl (by first | exact Or.inl rfl | exact Or.inr rfl)) pgs_nil))))
    (pss_cons (ps_set (i := 4) nd rfl (by first | exact Or.inl rfl | exact Or.inr rfl) (pe_c (cal_joined T pf) hr (by omega) rfl (pa_cons (pv 0) (pa_cons (pv 2) pa_nil))))
    (pss_one (ps_ret (pe_op op_sub (pe_op op_add (pe_c (cal_size_of T pf) hr (by omega) rfl (pa_cons (pv 4) pa_nil)) (pe_c cr hr (by omega) rfl (pa_cons (pv 0) (pa_cons (pv 3) pa_nil)))) (pe_c cr hr (by omega) rfl (pa_cons (pv 4) (pa_cons (pv 3) pa_nil)))))))))
theorem cal_union (T : Tx K mg) (pf : PFZ K) : Cal P w K mg base (2 + 10) "union" (sp_union 10 K) [] := by
  obtain ⟨fd, F, G⟩ := ok_union (P := P) (w := w) (base := base) T pf 10
  exact ⟨_, fd, _, [], G, T.gl_union, F.kp, F.bindsN fun _ _ _ _ _ _ us hl => match us, hl with | [_, _], _ => rfl, .nil⟩
theorem sc_count : FnScope ["disk", "lots", "every", "lot", "writes", "room", "number"] ["disk"] (defScope s_count) := ⟨rfl, rfl, rfl, by decide +kernel, rfl, by decide +kernel, by decide +kernel⟩
theorem ok_count (T : Tx K mg) (pf : PFZ K) : ∃ fd, FunD K "count" "count" (defArgs s_count) (defBody s_count) (defScope s_count) [] [] (He.fAd K ("count", none)) fd ∧ FnOk P w K mg base (L2.CX P w) 13 (He.fAd K ("count", none)) fd ["disk"] (sp_count K) := by
  obtain ⟨fd, F⟩ := T.def_ 23 (d := d_count) rfl
  refine ⟨fd, F, F.ok sc_count len_count (fun cdv A outer s H vs Q E hr h => ⟨t_count K E, ?_, pure_count pf.toPF h⟩)⟩
  have nd := (sc_count).nd
  exact (pss_cons (ps_set (i := 1) nd rfl (by first | exact Or.inl rfl | exact Or.inr rfl) (pe_lc (own := [("lot", 3), ("writes", 4)]) rfl nd (pi_enum rfl T.fr_enumerate (pa_cons (pe_fld (pv 0) rfl) pa_nil)) (blkOk_by (N := ["disk", "lots", "every", "lot", "writes", "room", "number"]) (sc := defScope s_count) (by decide +kernel)) (fun _ _ _ _ _ => (pg_tup rfl (pgs_cons (pg_name (i := 3) nd rfl (by first | exact Or.inl rfl | exact Or.inr rfl)) (pgs_cons (pg_name (i := 4) nd rfl (by first | exact Or.inl rfl | exact Or.inr rfl)) pgs_nil)))) (fun _ _ _ _ _ => (pts_one (pt_cmpR (op_neE hr.units) (pv 4) (pe_lst pa_nil) (nomark _)))) (fun _ _ _ _ _ => (pe_c (cal_choices_of T pf) hr (by decide) rfl (pa_cons (pv 0) (pa_cons (pv 3) pa_nil))))))
    (pss_cons (ps_if (pt_cmpR op_gt (pe_callB call_len_seq rfl T.fr_len boot_len (pa_cons (pv 1) pa_nil)) (pe_gc rfl (T.gc_MOST_LOTS)) (nomark _)) (pss_one (ps_raise rfl (takes_of rfl rfl rfl rfl) (pmk_own PySem.F.excBase_ValueError T.xF_TooMany T.gl_TooMany T.kF_TooMany (raises_own T.bF_TooMany T.tF_TooMany) (by exact rfl)))) pss_nil)
    (pss_cons (ps_if (pt_cmpR (op_eqE hr.units) (pv 1) (pe_lst pa_nil) (nomark _)) (pss_one (ps_ret pe_int)) pss_nil)
    (pss_cons (ps_setLc (i := 2) (own := [("room", 5)]) rfl nd rfl rfl (sw_true rfl rfl rfl (by decide +kernel)) (pi_range1 rfl T.fr_range (pa_cons (pe_mt0 (met_Disk_rooms T pf) hr (by decide) (pv 0)) pa_nil)) (blkOk_by (N := ["disk", "lots", "every", "lot", "writes", "room", "number"]) (sc := defScope s_count) (by decide +kernel)) (fun _ _ _ _ _ => (pg_name (i := 5) nd rfl (by first | exact Or.inl rfl | exact Or.inr rfl))) (fun _ _ _ _ _ => pts_nil) (fun _ _ _ _ _ => (pe_locks (pe_dc2 (own := [("lot", 3), ("number", 6)]) (vs1 := [6]) rfl nd (pi_list (pv 1)) (blkOk_by (N := ["disk", "lots", "every", "lot", "writes", "room", "number"]) (sc := relS _ (defScope s_count)) (by decide +kernel)) (by decide) (fun _ _ _ _ _ => (pg_name (i := 3) nd rfl (by first | exact Or.inl rfl | exact Or.inr rfl))) (fun _ _ _ _ _ => pts_nil) (fun _ _ _ _ _ => (pi_keys (pe_ix ix_list (pv 3) (pv 5) (fun _ _ => rfl)))) (fun _ _ _ _ _ => (pg_name (i := 6) nd rfl (by first | exact Or.inl rfl | exact Or.inr rfl))) (fun _ _ _ _ _ => pts_nil) (fun _ _ _ _ _ => (pv 6)) (fun _ _ _ _ _ => pe_bl)))))
    (pss_one (ps_ret (pe_c (cal_union T pf) hr (by decide) rfl (pa_cons (pv 2) (pa_cons (pv 1) pa_nil)))))))))
theorem cal_count (T : Tx K mg) (pf : PFZ K) : CalX P w K mg base 13 "count" (sp_count K) := by
  obtain ⟨fd, F, G⟩ := ok_count (P := P) (w := w) (base := base) T pf
  exact ⟨_, fd, _, G, T.gl_count, F.kp, F.bindsN fun _ _ _ _ _ _ us hl => match us, hl with | [_], _ => rfl⟩
theorem sc_Request_init : FnScope ["self", "count", "room", "number"] ["self", "count", "room", "number"] (defScope s_Request_init) := ⟨rfl, rfl, rfl, by decide +kernel, rfl, by decide +kernel, by decide +kernel⟩
theorem ok_Request_init (T : Tx K mg) (pf : PFZ K) : ∃ fd, FunD K "__init__" "Request.__init__" (defArgs s_Request_init) (defBody s_Request_init) (defScope s_Request_init) [] [] (He.fAd K ("Request", some "__init__")) fd ∧ FnOk P w K mg base CX0 1 (He.fAd K ("Request", some "__init__")) fd ["self", "count", "room", "number"] (sp_Request_init K) := by
  obtain ⟨fd, F⟩ := T.def_ 24 (d := d_Request_init) rfl
  refine ⟨fd, F, F.ok sc_Request_init len_Request_init (fun cdv A outer s H vs Q E hr h => ⟨t_Request_init K, PSs.nox ?_, pure_Request_init pf.toPF h⟩)⟩
  have nd := (sc_Request_init).nd
  exact (pss_cons (ps_fld (pv 0) (pv 1) rfl)
    (pss_cons (ps_fld (pv 0) (pv 2) rfl)
    (pss_cons (ps_fld (pv 0) (pv 3) rfl)
    (pss_one (ps_fld (pv 0) pe_int rfl)))))
theorem mak_Request (T : Tx K mg) (pf : PFZ K) : Mak P w K mg base 1 "Request" (He.ga K "Request") (sp_Request_init K) [] := by
  obtain ⟨fd, F, G⟩ := ok_Request_init (P := P) (w := w) (base := base) T pf
  exact ⟨_, fd, _, [], T.mk_Request, G, T.gl_Request, F.bindsN fun _ _ _ _ _ _ us hl => match us, hl with | [_, _, _, _], _ => rfl, .nil⟩
theorem sc_Request_is_write : FnScope ["self"] ["self"] (defScope s_Request_is_write) := ⟨rfl, rfl, rfl, by decide +kernel, rfl, by decide +kernel, by decide +kernel⟩
theorem ok_Request_is_write (T : Tx K mg) (pf : PFZ K) : ∃ fd, FunD K "is_write" "Request.is_write" (defArgs s_Request_is_write) (defBody s_Request_is_write) (defScope s_Request_is_write) [] [] (He.fAd K ("Request", some "is_write")) fd ∧ FnOk P w K mg base CX0 1 (He.fAd K ("Request", some "is_write")) fd ["self"] (sp_Request_is_write K) := by
  obtain ⟨fd, F⟩ := T.def_ 25 (d := d_Request_is_write) rfl
  refine ⟨fd, F, F.ok sc_Request_is_write len_Request_is_write (fun cdv A outer s H vs Q E hr h => ⟨t_Request_is_write K, PSs.nox ?_, pure_Request_is_write pf.toPF h⟩)⟩
  have nd := (sc_Request_is_write).nd
  exact (pss_one (ps_ret (pe_cmpR op_notN (pe_fld (pv 0) rfl) pe_non (nomark _))))
theorem met_Request_is_write (T : Tx K mg) (pf : PFZ K) : Met P w K mg base 1 (He.ga K "Request") "is_write" (sp_Request_is_write K) [] := by
  obtain ⟨fd, F, G⟩ := ok_Request_is_write (P := P) (w := w) (base := base) T pf
  exact ⟨_, fd, _, [], T.cl_Request, T.mt_Request_is_write, G, F.bindsN fun _ _ _ _ _ _ us hl => match us, hl with | [_], _ => rfl, .nil⟩
theorem sc_Queue_init : FnScope ["self", "patience"] ["self", "patience"] (defScope s_Queue_init) := ⟨rfl, rfl, rfl, by decide +kernel, rfl, by decide +kernel, by decide +kernel⟩
theorem ok_Queue_init (T : Tx K mg) (pf : PFZ K) : ∃ fd, FunD K "__init__" "Queue.__init__" (defArgs s_Queue_init) (defBody s_Queue_init) (defScope s_Queue_init) [] [] (He.fAd K ("Queue", some "__init__")) fd ∧ FnOk P w K mg base CX0 1 (He.fAd K ("Queue", some "__init__")) fd ["self", "patience"] (sp_Queue_init K) := by
  obtain ⟨fd, F⟩ := T.def_ 26 (d := d_Queue_init) rfl
  refine ⟨fd, F, F.ok sc_Queue_init len_Queue_init (fun cdv A outer s H vs Q E hr h => ⟨t_Queue_init K, PSs.nox ?_, pure_Queue_init pf.toPF h⟩)⟩
  have nd := (sc_Queue_init).nd
  exact (pss_cons (ps_fld (pv 0) (pv 1) rfl)
    (pss_cons (ps_fld (pv 0) (pe_lst pa_nil) rfl)
    (pss_cons (ps_fld (pv 0) pe_int rfl)
    (pss_one (ps_fld (pv 0) pe_int rfl)))))
theorem mak_Queue (T : Tx K mg) (pf : PFZ K) : Mak P w K mg base 1 "Queue" (He.ga K "Queue") (sp_Queue_init K) [] := by
  obtain ⟨fd, F, G⟩ := ok_Queue_init (P := P) (w := w) (base := base) T pf
  exact ⟨_, fd, _, [], T.mk_Queue, G, T.gl_Queue, F.bindsN fun _ _ _ _ _ _ us hl => match us, hl with | [_, _], _ => rfl, .nil⟩
theorem sc_Queue_put : FnScope ["self", "room", "number"] ["self", "room", "number"] (defScope s_Queue_put) := ⟨rfl, rfl, rfl, by decide +kernel, rfl, by decide +kernel, by decide +kernel⟩
theorem ok_Queue_put (T : Tx K mg) (pf : PFZ K) : ∃ fd, FunD K "put" "Queue.put" (defArgs s_Queue_put) (defBody s_Queue_put) (defScope s_Queue_put) [] [] (He.fAd K ("Queue", some "put")) fd ∧ FnOk P w K mg base CX0 3 (He.fAd K ("Queue", some "put")) fd ["self", "room", "number"] (sp_Queue_put K) := by
  obtain ⟨fd, F⟩ := T.def_ 27 (d := d_Queue_put) rfl
  refine ⟨fd, F, F.ok sc_Queue_put len_Queue_put (fun cdv A outer s H vs Q E hr h => ⟨t_Queue_put K, PSs.nox ?_, pure_Queue_put pf.toPF h⟩)⟩
  have nd := (sc_Queue_put).nd
  exact (pss_cons (ps_expr (pe_bm PySem.F.plainAttrs_list PySem.F.slot_list_append PySem.F.type_list_append mt_append (pe_fld (pv 0) rfl) (pa_cons (pe_mk (mak_Request T pf) hr (by decide) rfl (pa_cons (pe_fld (pv 0) rfl) (pa_cons (pv 1) (pa_cons (pv 2) pa_nil)))) pa_nil)))
    (pss_one (ps_fldaug (pv 0) pe_int in_add)))
theorem met_Queue_put (T : Tx K mg) (pf : PFZ K) : Met P w K mg base 3 (He.ga K "Queue") "put" (sp_Queue_put K) [] := by
  obtain ⟨fd, F, G⟩ := ok_Queue_put (P := P) (w := w) (base := base) T pf
  exact ⟨_, fd, _, [], T.cl_Queue, T.mt_Queue_put, G, F.bindsN fun _ _ _ _ _ _ us hl => match us, hl with | [_, _, _], _ => rfl, .nil⟩
theorem sc_Queue_newest : FnScope ["self", "room", "found", "request"] ["self", "room"] (defScope s_Queue_newest) := ⟨rfl, rfl, rfl, by decide +kernel, rfl, by decide +kernel, by decide +kernel⟩
theorem ok_Queue_newest (T : Tx K mg) (pf : PFZ K) : ∃ fd, FunD K "newest" "Queue.newest" (defArgs s_Queue_newest) (defBody s_Queue_newest) (defScope s_Queue_newest) [] [] (He.fAd K ("Queue", some "newest")) fd ∧ FnOk P w K mg base CX0 1 (He.fAd K ("Queue", some "newest")) fd ["self", "room"] (sp_Queue_newest K) := by
  obtain ⟨fd, F⟩ := T.def_ 28 (d := d_Queue_newest) rfl
  refine ⟨fd, F, F.ok sc_Queue_newest len_Queue_newest (fun cdv A outer s H vs Q E hr h => ⟨t_Queue_newest K, PSs.nox ?_, pure_Queue_newest pf.toPF h⟩)⟩
  have nd := (sc_Queue_newest).nd
  exact (pss_cons (ps_setLc (i := 2) (own := [("request", 3)]) rfl nd rfl rfl (sw_true rfl rfl rfl (by decide +kernel)) (pi_list (pe_fld (pv 0) rfl)) (blkOk_by (N := ["self", "room", "found", "request"]) (sc := defScope s_Queue_newest) (by decide +kernel)) (fun _ _ _ _ _ => (pg_name (i := 3) nd rfl (by first | exact Or.inl rfl | exact Or.inr rfl))) (fun _ _ _ _ _ => (pts_one (pt_cmpR op_eq (pe_fld (pv 3) rfl) (pv 1) (nomark _)))) (fun _ _ _ _ _ => (pv 3)))
    (pss_one (ps_ret (pe_ifExp (pt_cmpR (op_neE hr.units) (pv 2) (pe_lst pa_nil) (nomark _)) (pe_ix ix_list (pv 2) (pe_un un_neg pe_int) (fun _ _ => rfl)) pe_non))))
theorem met_Queue_newest (T : Tx K mg) (pf : PFZ K) : Met P w K mg base 1 (He.ga K "Queue") "newest" (sp_Queue_newest K) [] := by
  obtain ⟨fd, F, G⟩ := ok_Queue_newest (P := P) (w := w) (base := base) T pf
  exact ⟨_, fd, _, [], T.cl_Queue, T.mt_Queue_newest, G, F.bindsN fun _ _ _ _ _ _ us hl => match us, hl with | [_, _], _ => rfl, .nil⟩
theorem sc_Queue_free : FnScope ["self", "found", "request"] ["self"] (defScope s_Queue_free) := ⟨rfl, rfl, rfl, by decide +kernel, rfl, by decide +kernel, by decide +kernel⟩
theorem ok_Queue_free (T : Tx K mg) (pf : PFZ K) : ∃ fd, FunD K "free" "Queue.free" (defArgs s_Queue_free) (defBody s_Queue_free) (defScope s_Queue_free) [] [] (He.fAd K ("Queue", some "free")) fd ∧ FnOk P w K mg base CX0 2 (He.fAd K ("Queue", some "free")) fd ["self"] (sp_Queue_free K) := by
  obtain ⟨fd, F⟩ := T.def_ 29 (d := d_Queue_free) rfl
  refine ⟨fd, F, F.ok sc_Queue_free len_Queue_free (fun cdv A outer s H vs Q E hr h => ⟨t_Queue_free K, PSs.nox ?_, pure_Queue_free pf.toPF h⟩)⟩
  have nd := (sc_Queue_free).nd
  exact (pss_cons (ps_set (i := 1) nd rfl (by first | exact Or.inl rfl | exact Or.inr rfl) (pe_lst pa_nil))
    (pss_cons (ps_for PassesOwn.never rfl (pi_list (pe_fld (pv 0) rfl)) (pg_name (i := 2) nd rfl (by first | exact Or.inl rfl | exact Or.inr rfl)) (pss_cons (ps_if (pt_not (pt_val (pe_mt0 (met_Request_is_write T pf) hr (by decide) (pv 2)))) (pss_one (ps_ret (pv 1))) pss_nil)
    (pss_one (ps_expr (pe_bm PySem.F.plainAttrs_list PySem.F.slot_list_append PySem.F.type_list_append mt_append (pv 1) (pa_cons (pv 2) pa_nil))))))
    (pss_one (ps_ret (pv 1)))))
theorem met_Queue_free (T : Tx K mg) (pf : PFZ K) : Met P w K mg base 2 (He.ga K "Queue") "free" (sp_Queue_free K) [] := by
  obtain ⟨fd, F, G⟩ := ok_Queue_free (P := P) (w := w) (base := base) T pf
  exact ⟨_, fd, _, [], T.cl_Queue, T.mt_Queue_free, G, F.bindsN fun _ _ _ _ _ _ us hl => match us, hl with | [_], _ => rfl, .nil⟩
theorem sc_Queue_by_arm : FnScope ["self", "request"] ["self", "request"] (defScope s_Queue_by_arm) := ⟨rfl, rfl, rfl, by decide +kernel, rfl, by decide +kernel, by decide +kernel⟩
theorem ok_Queue_by_arm (T : Tx K mg) (pf : PFZ K) : ∃ fd, FunD K "by_arm" "Queue.by_arm" (defArgs s_Queue_by_arm) (defBody s_Queue_by_arm) (defScope s_Queue_by_arm) [] [] (He.fAd K ("Queue", some "by_arm")) fd ∧ FnOk P w K mg base CX0 1 (He.fAd K ("Queue", some "by_arm")) fd ["self", "request"] (sp_Queue_by_arm K) := by
  obtain ⟨fd, F⟩ := T.def_ 30 (d := d_Queue_by_arm) rfl
  refine ⟨fd, F, F.ok sc_Queue_by_arm len_Queue_by_arm (fun cdv A outer s H vs Q E hr h => ⟨t_Queue_by_arm K, PSs.nox ?_, pure_Queue_by_arm pf.toPF h⟩)⟩
  have nd := (sc_Queue_by_arm).nd
  exact (pss_one (ps_ret (pe_tup (pa_cons (pe_cmpR op_lt (pe_fld (pv 1) rfl) (pe_fld (pv 0) rfl) (nomark _)) (pa_cons (pe_fld (pv 1) rfl) (pa_cons (pe_fld (pv 1) rfl) pa_nil))))))
theorem met_Queue_by_arm (T : Tx K mg) (pf : PFZ K) : Met P w K mg base 1 (He.ga K "Queue") "by_arm" (sp_Queue_by_arm K) [] := by
  obtain ⟨fd, F, G⟩ := ok_Queue_by_arm (P := P) (w := w) (base := base) T pf
  exact ⟨_, fd, _, [], T.cl_Queue, T.mt_Queue_by_arm, G, F.bindsN fun _ _ _ _ _ _ us hl => match us, hl with | [_, _], _ => rfl, .nil⟩
theorem mk_Queue_by_arm {X : Cx} {j : Nat} (hc : X.calm = true) (T : Tx X.K X.mg) (pf : PFZ X.K) (hr : Room j X.A) (hj : 2 ≤ j) : CallRK X (.builtin "min") [Str.ofString "key"] (rMinKey X.K (He.fAd X.K ("Queue", some "by_arm")) (sp_Queue_by_arm X.K)) := by
  obtain ⟨fd, F, G⟩ := ok_Queue_by_arm (P := X.prog) (w := X.w) (base := X.base) T pf
  exact call_minKey hc G (hr.mono hj) (F.bindsN fun _ _ _ _ _ _ us hl => match us, hl with | [_, _], _ => rfl)
theorem sc_Queue_choice : FnScope ["self", "first", "rest", "writes"] ["self"] (defScope s_Queue_choice) := ⟨rfl, rfl, rfl, by decide +kernel, rfl, by decide +kernel, by decide +kernel⟩
theorem ok_Queue_choice (T : Tx K mg) (pf : PFZ K) : ∃ fd, FunD K "choice" "Queue.choice" (defArgs s_Queue_choice) (defBody s_Queue_choice) (defScope s_Queue_choice) [] [] (He.fAd K ("Queue", some "choice")) fd ∧ FnOk P w K mg base CX0 3 (He.fAd K ("Queue", some "choice")) fd ["self"] (sp_Queue_choice K) := by
  obtain ⟨fd, F⟩ := T.def_ 31 (d := d_Queue_choice) rfl
  refine ⟨fd, F, F.ok sc_Queue_choice len_Queue_choice (fun cdv A outer s H vs Q E hr h => ⟨t_Queue_choice K, PSs.nox ?_, pure_Queue_choice pf.toPF h⟩)⟩
  have nd := (sc_Queue_choice).nd
  exact (pss_cons (ps_asg (pe_fld (pv 0) rfl) (pg_star rfl (pgs_cons (pg_name (i := 1) nd rfl (by first | exact Or.inl rfl | exact Or.inr rfl)) (pgs_star (pg_name (i := 2) nd rfl (by first | exact Or.inl rfl | exact Or.inr rfl)) pgs_nil))))
    (pss_cons (ps_set (i := 3) nd rfl (by first | exact Or.inl rfl | exact Or.inr rfl) (pe_mt0 (met_Queue_free T pf) hr (by decide) (pv 0)))
    (pss_cons (ps_if (PW.pt (pw_or (pt_cmpR op_ge (pe_fld (pv 1) rfl) (pe_fld (pv 0) rfl) (nomark _)) (pw_or1 (pt_cmpR (op_eqE hr.units) (pv 3) (pe_lst pa_nil) (nomark _))))) (pss_one (ps_ret (pv 1))) pss_nil)
    (pss_one (ps_ret (pe_callBK (mk_Queue_by_arm rfl T pf hr (by decide)) rfl T.fr_min boot_min (pa_cons (pv 3) pa_nil) (pk_cons (pe_bnd T.cl_Queue T.bm_Queue_by_arm (pv 0)) pk_nil)))))))
theorem met_Queue_choice (T : Tx K mg) (pf : PFZ K) : Met P w K mg base 3 (He.ga K "Queue") "choice" (sp_Queue_choice K) [] := by
  obtain ⟨fd, F, G⟩ := ok_Queue_choice (P := P) (w := w) (base := base) T pf
  exact ⟨_, fd, _, [], T.cl_Queue, T.mt_Queue_choice, G, F.bindsN fun _ _ _ _ _ _ us hl => match us, hl with | [_], _ => rfl, .nil⟩
theorem sc_Queue_served : FnScope ["self", "request", "other"] ["self", "request"] (defScope s_Queue_served) := ⟨rfl, rfl, rfl, by decide +kernel, rfl, by decide +kernel, by decide +kernel⟩
theorem ok_Queue_served (T : Tx K mg) (pf : PFZ K) : ∃ fd, FunD K "served" "Queue.served" (defArgs s_Queue_served) (defBody s_Queue_served) (defScope s_Queue_served) [] [] (He.fAd K ("Queue", some "served")) fd ∧ FnOk P w K mg base CX0 2 (He.fAd K ("Queue", some "served")) fd ["self", "request"] (sp_Queue_served K) := by
  obtain ⟨fd, F⟩ := T.def_ 32 (d := d_Queue_served) rfl
  refine ⟨fd, F, F.ok sc_Queue_served len_Queue_served (fun cdv A outer s H vs Q E hr h => ⟨t_Queue_served K, PSs.nox ?_, pure_Queue_served pf.toPF h⟩)⟩
  have nd := (sc_Queue_served).nd
  exact (pss_cons (ps_fld (pv 0) (pe_lc (own := [("other", 2)]) rfl nd (pi_list (pe_fld (pv 0) rfl)) (blkOk_by (N := ["self", "request", "other"]) (sc := defScope s_Queue_served) (by decide +kernel)) (fun _ _ _ _ _ => (pg_name (i := 2) nd rfl (by first | exact Or.inl rfl | exact Or.inr rfl))) (fun _ _ _ _ _ => (pts_one (pt_cmpR op_ne (pe_fld (pv 2) rfl) (pe_fld (pv 1) rfl) (nomark _)))) (fun _ _ _ _ _ => (pv 2))) rfl)
    (pss_cons (ps_for PassesOwn.never rfl (pi_list (pe_fld (pv 0) rfl)) (pg_name (i := 2) nd rfl (by first | exact Or.inl rfl | exact Or.inr rfl)) (pss_one (ps_fldaug (pv 2) pe_int in_add)))
    (pss_one (ps_if (pt_val (pe_mt0 (met_Request_is_write T pf) hr (by decide) (pv 1))) (pss_one (ps_fld (pv 0) (pe_fld (pv 1) rfl) rfl)) pss_nil))))
theorem met_Queue_served (T : Tx K mg) (pf : PFZ K) : Met P w K mg base 2 (He.ga K "Queue") "served" (sp_Queue_served K) [] := by
  obtain ⟨fd, F, G⟩ := ok_Queue_served (P := P) (w := w) (base := base) T pf
  exact ⟨_, fd, _, [], T.cl_Queue, T.mt_Queue_served, G, F.bindsN fun _ _ _ _ _ _ us hl => match us, hl with | [_, _], _ => rfl, .nil⟩
theorem sc_Frame_init : FnScope ["self", "room", "number"] ["self", "room", "number"] (defScope s_Frame_init) := ⟨rfl, rfl, rfl, by decide +kernel, rfl, by decide +kernel, by decide +kernel⟩
theorem ok_Frame_init (T : Tx K mg) (pf : PFZ K) : ∃ fd, FunD K "__init__" "Frame.__init__" (defArgs s_Frame_init) (defBody s_Frame_init) (defScope s_Frame_init) [] [] (He.fAd K ("Frame", some "__init__")) fd ∧ FnOk P w K mg base CX0 1 (He.fAd K ("Frame", some "__init__")) fd ["self", "room", "number"] (sp_Frame_init K) := by
  obtain ⟨fd, F⟩ := T.def_ 33 (d := d_Frame_init) rfl
  refine ⟨fd, F, F.ok sc_Frame_init len_Frame_init (fun cdv A outer s H vs Q E hr h => ⟨t_Frame_init K, PSs.nox ?_, pure_Frame_init pf.toPF h⟩)⟩
  have nd := (sc_Frame_init).nd
  exact (pss_cons (ps_fld (pv 0) (pv 1) rfl)
    (pss_cons (ps_fld (pv 0) (pv 2) rfl)
    (pss_one (ps_fld (pv 0) pe_bl rfl))))
theorem mak_Frame (T : Tx K mg) (pf : PFZ K) : Mak P w K mg base 1 "Frame" (He.ga K "Frame") (sp_Frame_init K) [] := by
  obtain ⟨fd, F, G⟩ := ok_Frame_init (P := P) (w := w) (base := base) T pf
  exact ⟨_, fd, _, [], T.mk_Frame, G, T.gl_Frame, F.bindsN fun _ _ _ _ _ _ us hl => match us, hl with | [_, _, _], _ => rfl, .nil⟩
theorem sc_Store_init : FnScope ["self", "disk", "frames", "dirty", "patience"] ["self", "disk", "frames", "dirty", "patience"] (defScope s_Store_init) := ⟨rfl, rfl, rfl, by decide +kernel, rfl, by decide +kernel, by decide +kernel⟩
theorem ok_Store_init (T : Tx K mg) (pf : PFZ K) : ∃ fd, FunD K "__init__" "Store.__init__" (defArgs s_Store_init) (defBody s_Store_init) (defScope s_Store_init) [] [("frames", V.int 4), ("dirty", V.int 2), ("patience", V.int 3)] (He.fAd K ("Store", some "__init__")) fd ∧ FnOk P w K mg base CX0 3 (He.fAd K ("Store", some "__init__")) fd ["self", "disk", "frames", "dirty", "patience"] (sp_Store_init K) := by
  obtain ⟨fd, F⟩ := T.def_ 34 (d := d_Store_init) rfl
  refine ⟨fd, F, F.ok sc_Store_init len_Store_init (fun cdv A outer s H vs Q E hr h => ⟨t_Store_init K, PSs.nox ?_, pure_Store_init pf.toPF h⟩)⟩
  have nd := (sc_Store_init).nd
  exact (pss_cons (ps_if (PW.pt (pw_or (pt_not (pt_val (pe_callB call_isi rfl T.fr_isinstance boot_isinstance (pa_cons (pv 1) (pa_cons (pe_gc rfl (T.gv_Disk)) pa_nil))))) (pw_or (pt_not (pt_val (pe_c (cal_within T pf) hr (by decide) rfl (pa_cons (pv 2) (pa_cons pe_int (pa_cons (pe_gc rfl (T.gc_MOST_FRAMES)) pa_nil)))))) (pw_or1 (pt_not (pt_val (pe_c (cal_within T pf) hr (by decide) rfl (pa_cons (pv 3) (pa_cons pe_int (pa_cons (pv 2) pa_nil)))))))))) (pss_one ps_never) pss_nil)
    (pss_cons (ps_if (pt_not (pt_val (pe_c (cal_within T pf) hr (by decide) rfl (pa_cons (pv 4) (pa_cons pe_int (pa_cons (pe_gc rfl (T.gc_MOST_PATIENCE)) pa_nil)))))) (pss_one ps_never) pss_nil)
    (pss_cons (ps_fld (pv 0) (pv 1) rfl)
    (pss_cons (ps_fld (pv 0) (pv 2) rfl)
    (pss_cons (ps_fld (pv 0) (pv 3) rfl)
    (pss_cons (ps_fld (pv 0) (pe_lst pa_nil) rfl)
    (pss_one (ps_fld (pv 0) (pe_mk (mak_Queue T pf) hr (by decide) rfl (pa_cons (pv 4) pa_nil)) rfl))))))))
theorem mak_Store (T : Tx K mg) (pf : PFZ K) : Mak P w K mg base 3 "Store" (He.ga K "Store") (sp_Store_init K) (dv_Store_init K) := by
  obtain ⟨fd, F, G⟩ := ok_Store_init (P := P) (w := w) (base := base) T pf
  obtain ⟨ds, rd, bd⟩ := F.binds0 (ps := ["self", "disk", "frames", "dirty", "patience"]) 2 (by decide) rfl (fun D doc pm an cdv ct us ks h1 h2 => match us, h1, ks, h2 with | [_, _], _, [_, _, _], _ => ⟨_, _, _, _, _, _, rfl, rfl, ⟨_, _, _, _, _, _, rfl, rfl, ⟨_, _, _, _, _, _, rfl, rfl, rfl⟩⟩⟩)
  exact ⟨_, fd, _, ds, T.mk_Store, G, T.gl_Store, bd, rd⟩
theorem km_Store_frames_dirty (T : Tx K mg) (pf : PFZ K) : KMak P w K mg base 3 "Store" (He.ga K "Store") 1 [Str.ofString "frames", Str.ofString "dirty"] (sp_Store_init K) kg_Store_frames_dirty := by
  obtain ⟨fd, F, G⟩ := ok_Store_init (P := P) (w := w) (base := base) T pf
  obtain ⟨mv, kb⟩ := F.kbinds0 (ps := ["self", "disk", "frames", "dirty", "patience"]) 2 [Str.ofString "frames", Str.ofString "dirty"] [("patience", V.int 3)] (fun us mv ws => (us) ++ ((ws.drop 0).take 1) ++ ((ws.drop 1).take 1) ++ ((mv.drop 0).take 1)) (by decide) (by decide) (fun r1 r2 r3 => (((r1.append ((r3.drop 0).take 1)).append ((r3.drop 1).take 1)).append ((r2.drop 0).take 1))) (fun D doc pm an cdv ct us mv ws h1 h2 h3 => match us, h1, mv, h2, ws, h3 with | [_, _], _, [_], _, [_, _], _ => ⟨_, _, _, _, _, _, rfl, rfl, rfl⟩)
  exact ⟨_, fd, _, _, T.mk_Store, G, T.gl_Store, kb⟩
theorem km_Store_frames_dirty_patience (T : Tx K mg) (pf : PFZ K) : KMak P w K mg base 3 "Store" (He.ga K "Store") 1 [Str.ofString "frames", Str.ofString "dirty", Str.ofString "patience"] (sp_Store_init K) kg_Store_frames_dirty_patience := by
  obtain ⟨fd, F, G⟩ := ok_Store_init (P := P) (w := w) (base := base) T pf
  obtain ⟨mv, kb⟩ := F.kbinds0 (ps := ["self", "disk", "frames", "dirty", "patience"]) 2 [Str.ofString "frames", Str.ofString "dirty", Str.ofString "patience"] [] (fun us mv ws => (us) ++ ((ws.drop 0).take 1) ++ ((ws.drop 1).take 1) ++ ((ws.drop 2).take 1)) (by decide) (by decide) (fun r1 r2 r3 => (((r1.append ((r3.drop 0).take 1)).append ((r3.drop 1).take 1)).append ((r3.drop 2).take 1))) (fun D doc pm an cdv ct us mv ws h1 h2 h3 => match us, h1, mv, h2, ws, h3 with | [_, _], _, [], _, [_, _, _], _ => rfl)
  exact ⟨_, fd, _, _, T.mk_Store, G, T.gl_Store, kb⟩
theorem sc_Store_check_room : FnScope ["self", "room"] ["self", "room"] (defScope s_Store_check_room) := ⟨rfl, rfl, rfl, by decide +kernel, rfl, by decide +kernel, by decide +kernel⟩
theorem ok_Store_check_room (T : Tx K mg) (pf : PFZ K) : ∃ fd, FunD K "check_room" "Store.check_room" (defArgs s_Store_check_room) (defBody s_Store_check_room) (defScope s_Store_check_room) [] [] (He.fAd K ("Store", some "check_room")) fd ∧ FnOk P w K mg base CX0 3 (He.fAd K ("Store", some "check_room")) fd ["self", "room"] (sp_Store_check_room K) := by
  obtain ⟨fd, F⟩ := T.def_ 35 (d := d_Store_check_room) rfl
  refine ⟨fd, F, F.ok sc_Store_check_room len_Store_check_room (fun cdv A outer s H vs Q E hr h => ⟨t_Store_check_room K, PSs.nox ?_, pure_Store_check_room pf.toPF h⟩)⟩
  have nd := (sc_Store_check_room).nd
  exact (pss_one (ps_if (pt_not (pt_val (pe_c (cal_within T pf) hr (by decide) rfl (pa_cons (pv 1) (pa_cons pe_int (pa_cons (pe_op op_sub (pe_mt0 (met_Disk_rooms T pf) hr (by decide) (pe_fld (pv 0) rfl)) pe_int) pa_nil)))))) (pss_one ps_never) pss_nil))
theorem met_Store_check_room (T : Tx K mg) (pf : PFZ K) : Met P w K mg base 3 (He.ga K "Store") "check_room" (sp_Store_check_room K) [] := by
  obtain ⟨fd, F, G⟩ := ok_Store_check_room (P := P) (w := w) (base := base) T pf
  exact ⟨_, fd, _, [], T.cl_Store, T.mt_Store_check_room, G, F.bindsN fun _ _ _ _ _ _ us hl => match us, hl with | [_, _], _ => rfl, .nil⟩
theorem sc_Store_clean : FnScope ["self", "frame"] ["self", "frame"] (defScope s_Store_clean) := ⟨rfl, rfl, rfl, by decide +kernel, rfl, by decide +kernel, by decide +kernel⟩
theorem ok_Store_clean (T : Tx K mg) (pf : PFZ K) : ∃ fd, FunD K "clean" "Store.clean" (defArgs s_Store_clean) (defBody s_Store_clean) (defScope s_Store_clean) [] [] (He.fAd K ("Store", some "clean")) fd ∧ FnOk P w K mg base CX0 4 (He.fAd K ("Store", some "clean")) fd ["self", "frame"] (sp_Store_clean K) := by
  obtain ⟨fd, F⟩ := T.def_ 36 (d := d_Store_clean) rfl
  refine ⟨fd, F, F.ok sc_Store_clean len_Store_clean (fun cdv A outer s H vs Q E hr h => ⟨t_Store_clean K, PSs.nox ?_, pure_Store_clean pf.toPF h⟩)⟩
  have nd := (sc_Store_clean).nd
  exact (pss_cons (ps_expr (pe_mt (met_Queue_put T pf) hr (by decide) (pe_fld (pv 0) rfl) (pa_cons (pe_fld (pv 1) rfl) (pa_cons (pe_fld (pv 1) rfl) pa_nil))))
    (pss_one (ps_fld (pv 1) pe_bl rfl)))
theorem met_Store_clean (T : Tx K mg) (pf : PFZ K) : Met P w K mg base 4 (He.ga K "Store") "clean" (sp_Store_clean K) [] := by
  obtain ⟨fd, F, G⟩ := ok_Store_clean (P := P) (w := w) (base := base) T pf
  exact ⟨_, fd, _, [], T.cl_Store, T.mt_Store_clean, G, F.bindsN fun _ _ _ _ _ _ us hl => match us, hl with | [_, _], _ => rfl, .nil⟩
theorem sc_Store_leave : FnScope ["self", "clean", "frame"] ["self"] (defScope s_Store_leave) := ⟨rfl, rfl, rfl, by decide +kernel, rfl, by decide +kernel, by decide +kernel⟩
theorem ok_Store_leave (T : Tx K mg) (pf : PFZ K) : ∃ fd, FunD K "leave" "Store.leave" (defArgs s_Store_leave) (defBody s_Store_leave) (defScope s_Store_leave) [] [] (He.fAd K ("Store", some "leave")) fd ∧ FnOk P w K mg base CX0 5 (He.fAd K ("Store", some "leave")) fd ["self"] (sp_Store_leave K) := by
  obtain ⟨fd, F⟩ := T.def_ 37 (d := d_Store_leave) rfl
  refine ⟨fd, F, F.ok sc_Store_leave len_Store_leave (fun cdv A outer s H vs Q E hr h => ⟨t_Store_leave K, PSs.nox ?_, pure_Store_leave pf.toPF h⟩)⟩
  have nd := (sc_Store_leave).nd
  exact (pss_cons (ps_set (i := 1) nd rfl (by first | exact Or.inl rfl | exact Or.inr rfl) (pe_lc (own := [("frame", 2)]) rfl nd (pi_list (pe_fld (pv 0) rfl)) (blkOk_by (N := ["self", "clean", "frame"]) (sc := defScope s_Store_leave) (by decide +kernel)) (fun _ _ _ _ _ => (pg_name (i := 2) nd rfl (by first | exact Or.inl rfl | exact Or.inr rfl))) (fun _ _ _ _ _ => (pts_one (pt_not (pt_val (pe_fld (pv 2) rfl))))) (fun _ _ _ _ _ => (pv 2))))
    (pss_cons (ps_if (pt_cmpR (op_eqE hr.units) (pv 1) (pe_lst pa_nil) (nomark _)) (pss_cons (ps_expr (pe_mt (met_Store_clean T pf) hr (by decide) (pv 0) (pa_cons (pe_ix ix_list (pe_fld (pv 0) rfl) pe_int (fun _ _ => rfl)) pa_nil)))
    (pss_one (ps_set (i := 1) nd rfl (by first | exact Or.inl rfl | exact Or.inr rfl) (pe_fld (pv 0) rfl)))) pss_nil)
    (pss_one (ps_fld (pv 0) (pe_lc (own := [("frame", 2)]) rfl nd (pi_list (pe_fld (pv 0) rfl)) (blkOk_by (N := ["self", "clean", "frame"]) (sc := defScope s_Store_leave) (by decide +kernel)) (fun _ _ _ _ _ => (pg_name (i := 2) nd rfl (by first | exact Or.inl rfl | exact Or.inr rfl))) (fun _ _ _ _ _ => (pts_one (pt_cmpR op_ne (pe_fld (pv 2) rfl) (pe_fld (pe_ix ix_list (pv 1) pe_int (fun _ _ => rfl)) rfl) (nomark _)))) (fun _ _ _ _ _ => (pv 2))) rfl))))
theorem met_Store_leave (T : Tx K mg) (pf : PFZ K) : Met P w K mg base 5 (He.ga K "Store") "leave" (sp_Store_leave K) [] := by
  obtain ⟨fd, F, G⟩ := ok_Store_leave (P := P) (w := w) (base := base) T pf
  exact ⟨_, fd, _, [], T.cl_Store, T.mt_Store_leave, G, F.bindsN fun _ _ _ _ _ _ us hl => match us, hl with | [_], _ => rfl, .nil⟩
theorem sc_Store_use : FnScope ["self", "room", "found", "request", "frame"] ["self", "room"] (defScope s_Store_use) := ⟨rfl, rfl, rfl, by decide +kernel, rfl, by decide +kernel, by decide +kernel⟩
theorem ok_Store_use (T : Tx K mg) (pf : PFZ K) : ∃ fd, FunD K "use" "Store.use" (defArgs s_Store_use) (defBody s_Store_use) (defScope s_Store_use) [] [] (He.fAd K ("Store", some "use")) fd ∧ FnOk P w K mg base CX0 6 (He.fAd K ("Store", some "use")) fd ["self", "room"] (sp_Store_use K) := by
  obtain ⟨fd, F⟩ := T.def_ 38 (d := d_Store_use) rfl
  refine ⟨fd, F, F.ok sc_Store_use len_Store_use (fun cdv A outer s H vs Q E hr h => ⟨t_Store_use K, PSs.nox ?_, pure_Store_use pf.toPF h⟩)⟩
  have nd := (sc_Store_use).nd
  exact (pss_cons (ps_setLc (i := 2) (own := [("frame", 4)]) rfl nd rfl rfl (sw_true rfl rfl rfl (by decide +kernel)) (pi_list (pe_fld (pv 0) rfl)) (blkOk_by (N := ["self", "room", "found", "request", "frame"]) (sc := defScope s_Store_use) (by decide +kernel)) (fun _ _ _ _ _ => (pg_name (i := 4) nd rfl (by first | exact Or.inl rfl | exact Or.inr rfl))) (fun _ _ _ _ _ => (pts_one (pt_cmpR op_eq (pe_fld (pv 4) rfl) (pv 1) (nomark _)))) (fun _ _ _ _ _ => (pv 4)))
    (pss_cons (ps_if (pt_cmpR (op_eqE hr.units) (pv 2) (pe_lst pa_nil) (nomark _)) (pss_cons (ps_if (pt_cmpR op_eq (pe_callB call_len_seq rfl T.fr_len boot_len (pa_cons (pe_fld (pv 0) rfl) pa_nil)) (pe_fld (pv 0) rfl) (nomark _)) (pss_one (ps_expr (pe_mt0 (met_Store_leave T pf) hr (by decide) (pv 0)))) pss_nil)
    (pss_cons (ps_set (i := 3) nd rfl (by first | exact Or.inl rfl | exact Or.inr rfl) (pe_mt (met_Queue_newest T pf) hr (by decide) (pe_fld (pv 0) rfl) (pa_cons (pv 1) pa_nil)))
    (pss_one (ps_set (i := 2) nd rfl (by first | exact Or.inl rfl | exact Or.inr rfl) (pe_lst (pa_cons (pe_mk (mak_Frame T pf) hr (by decide) rfl (pa_cons (pv 1) (pa_cons (pe_ifExp (pt_cmpR op_isN (pv 3) pe_non (nomark _)) (pe_mt (met_Disk_ask_read T pf) hr (by decide) (pe_fld (pv 0) rfl) (pa_cons (pv 1) pa_nil)) (pe_fld (pv 3) rfl)) pa_nil))) pa_nil)))))) pss_nil)
    (pss_cons (ps_fld (pv 0) (pe_op op_cat (pe_lc (own := [("frame", 4)]) rfl nd (pi_list (pe_fld (pv 0) rfl)) (blkOk_by (N := ["self", "room", "found", "request", "frame"]) (sc := defScope s_Store_use) (by decide +kernel)) (fun _ _ _ _ _ => (pg_name (i := 4) nd rfl (by first | exact Or.inl rfl | exact Or.inr rfl))) (fun _ _ _ _ _ => (pts_one (pt_cmpR op_ne (pe_fld (pv 4) rfl) (pv 1) (nomark _)))) (fun _ _ _ _ _ => (pv 4))) (pv 2)) rfl)
    (pss_one (ps_ret (pe_ix ix_list (pv 2) pe_int (fun _ _ => rfl)))))))
theorem met_Store_use (T : Tx K mg) (pf : PFZ K) : Met P w K mg base 6 (He.ga K "Store") "use" (sp_Store_use K) [] := by
  obtain ⟨fd, F, G⟩ := ok_Store_use (P := P) (w := w) (base := base) T pf
  exact ⟨_, fd, _, [], T.cl_Store, T.mt_Store_use, G, F.bindsN fun _ _ _ _ _ _ us hl => match us, hl with | [_, _], _ => rfl, .nil⟩
theorem sc_Store_write : FnScope ["self", "room", "number", "frame", "dirty", "other"] ["self", "room", "number"] (defScope s_Store_write) := ⟨rfl, rfl, rfl, by decide +kernel, rfl, by decide +kernel, by decide +kernel⟩
theorem ok_Store_write (T : Tx K mg) (pf : PFZ K) : ∃ fd, FunD K "write" "Store.write" (defArgs s_Store_write) (defBody s_Store_write) (defScope s_Store_write) [] [] (He.fAd K ("Store", some "write")) fd ∧ FnOk P w K mg base CX0 7 (He.fAd K ("Store", some "write")) fd ["self", "room", "number"] (sp_Store_write K) := by
  obtain ⟨fd, F⟩ := T.def_ 39 (d := d_Store_write) rfl
  refine ⟨fd, F, F.ok sc_Store_write len_Store_write (fun cdv A outer s H vs Q E hr h => ⟨t_Store_write K, PSs.nox ?_, pure_Store_write pf.toPF h⟩)⟩
  have nd := (sc_Store_write).nd
  exact (pss_cons (ps_expr (pe_mt (met_Store_check_room T pf) hr (by decide) (pv 0) (pa_cons (pv 1) pa_nil)))
    (pss_cons (ps_if (pt_not (pt_val (pe_c (cal_is_whole T pf) hr (by decide) rfl (pa_cons (pv 2) pa_nil)))) (pss_one ps_never) pss_nil)
    (pss_cons (ps_set (i := 3) nd rfl (by first | exact Or.inl rfl | exact Or.inr rfl) (pe_mt (met_Store_use T pf) hr (by decide) (pv 0) (pa_cons (pv 1) pa_nil)))
    (pss_cons (ps_fld (pv 3) (pv 2) rfl)
    (pss_cons (ps_fld (pv 3) pe_bl rfl)
    (pss_cons (ps_setLc (i := 4) (own := [("other", 5)]) rfl nd rfl rfl (sw_true rfl rfl rfl (by decide +kernel)) (pi_list (pe_fld (pv 0) rfl)) (blkOk_by (N := ["self", "room", "number", "frame", "dirty", "other"]) (sc := defScope s_Store_write) (by decide +kernel)) (fun _ _ _ _ _ => (pg_name (i := 5) nd rfl (by first | exact Or.inl rfl | exact Or.inr rfl))) (fun _ _ _ _ _ => (pts_one (pt_val (pe_fld (pv 5) rfl)))) (fun _ _ _ _ _ => (pv 5)))
    (pss_one (ps_if (pt_cmpR op_gt (pe_callB call_len_seq rfl T.fr_len boot_len (pa_cons (pv 4) pa_nil)) (pe_fld (pv 0) rfl) (nomark _)) (pss_one (ps_expr (pe_mt (met_Store_clean T pf) hr (by decide) (pv 0) (pa_cons (pe_ix ix_list (pv 4) pe_int (fun _ _ => rfl)) pa_nil)))) pss_nil))))))))
theorem met_Store_write (T : Tx K mg) (pf : PFZ K) : Met P w K mg base 7 (He.ga K "Store") "write" (sp_Store_write K) [] := by
  obtain ⟨fd, F, G⟩ := ok_Store_write (P := P) (w := w) (base := base) T pf
  exact ⟨_, fd, _, [], T.cl_Store, T.mt_Store_write, G, F.bindsN fun _ _ _ _ _ _ us hl => match us, hl with | [_, _, _], _ => rfl, .nil⟩
theorem sc_Store_order : FnScope ["self", "frame"] ["self"] (defScope s_Store_order) := ⟨rfl, rfl, rfl, by decide +kernel, rfl, by decide +kernel, by decide +kernel⟩
theorem ok_Store_order (T : Tx K mg) (pf : PFZ K) : ∃ fd, FunD K "order" "Store.order" (defArgs s_Store_order) (defBody s_Store_order) (defScope s_Store_order) [] [] (He.fAd K ("Store", some "order")) fd ∧ FnOk P w K mg base CX0 5 (He.fAd K ("Store", some "order")) fd ["self"] (sp_Store_order K) := by
  obtain ⟨fd, F⟩ := T.def_ 40 (d := d_Store_order) rfl
  refine ⟨fd, F, F.ok sc_Store_order len_Store_order (fun cdv A outer s H vs Q E hr h => ⟨t_Store_order K, PSs.nox ?_, pure_Store_order pf.toPF h⟩)⟩
  have nd := (sc_Store_order).nd
  have hr3 : Room 3 _ := hr.mono (by decide)
  exact (pss_cons (ps_for PassesOwn.never rfl (pi_list (pe_callBK (sk_spot_of T hr3) rfl T.fr_sorted boot_sorted (pa_cons (pe_fld (pv 0) rfl) pa_nil) (pk_cons (pe_gc rfl (T.gv_spot_of)) pk_nil))) (pg_name (i := 1) nd rfl (by first | exact Or.inl rfl | exact Or.inr rfl)) (pss_one (ps_if (pt_val (pe_fld (pv 1) rfl)) (pss_one (ps_expr (pe_mt (met_Store_clean T pf) hr (by decide) (pv 0) (pa_cons (pv 1) pa_nil)))) pss_nil)))
    (pss_one (ps_expr (pe_mt (met_Queue_put T pf) hr (by decide) (pe_fld (pv 0) rfl) (pa_cons pe_non (pa_cons pe_non pa_nil))))))
theorem met_Store_order (T : Tx K mg) (pf : PFZ K) : Met P w K mg base 5 (He.ga K "Store") "order" (sp_Store_order K) [] := by
  obtain ⟨fd, F, G⟩ := ok_Store_order (P := P) (w := w) (base := base) T pf
  exact ⟨_, fd, _, [], T.cl_Store, T.mt_Store_order, G, F.bindsN fun _ _ _ _ _ _ us hl => match us, hl with | [_], _ => rfl, .nil⟩
theorem sc_Store_serve : FnScope ["self", "request"] ["self"] (defScope s_Store_serve) := ⟨rfl, rfl, rfl, by decide +kernel, rfl, by decide +kernel, by decide +kernel⟩
theorem ok_Store_serve (T : Tx K mg) (pf : PFZ K) : ∃ fd, FunD K "serve" "Store.serve" (defArgs s_Store_serve) (defBody s_Store_serve) (defScope s_Store_serve) [] [] (He.fAd K ("Store", some "serve")) fd ∧ FnOk P w K mg base CX0 4 (He.fAd K ("Store", some "serve")) fd ["self"] (sp_Store_serve K) := by
  obtain ⟨fd, F⟩ := T.def_ 41 (d := d_Store_serve) rfl
  refine ⟨fd, F, F.ok sc_Store_serve len_Store_serve (fun cdv A outer s H vs Q E hr h => ⟨t_Store_serve K, PSs.nox ?_, pure_Store_serve pf.toPF h⟩)⟩
  have nd := (sc_Store_serve).nd
  exact (pss_cons (ps_set (i := 1) nd rfl (by first | exact Or.inl rfl | exact Or.inr rfl) (pe_mt0 (met_Queue_choice T pf) hr (by decide) (pe_fld (pv 0) rfl)))
    (pss_cons (ps_if (pt_val (pe_mt0 (met_Request_is_write T pf) hr (by decide) (pv 1))) (pss_one (ps_expr (pe_mt (met_Disk_ask_write T pf) hr (by decide) (pe_fld (pv 0) rfl) (pa_cons (pe_fld (pv 1) rfl) (pa_cons (pe_fld (pv 1) rfl) pa_nil))))) (pss_one (ps_expr (pe_mt0 (met_Disk_ask_barrier T pf) hr (by decide) (pe_fld (pv 0) rfl)))))
    (pss_cons (ps_expr (pe_mt (met_Queue_served T pf) hr (by decide) (pe_fld (pv 0) rfl) (pa_cons (pv 1) pa_nil)))
    (pss_one (ps_ret (pe_fld (pv 1) rfl))))))
theorem met_Store_serve (T : Tx K mg) (pf : PFZ K) : Met P w K mg base 4 (He.ga K "Store") "serve" (sp_Store_serve K) [] := by
  obtain ⟨fd, F, G⟩ := ok_Store_serve (P := P) (w := w) (base := base) T pf
  exact ⟨_, fd, _, [], T.cl_Store, T.mt_Store_serve, G, F.bindsN fun _ _ _ _ _ _ us hl => match us, hl with | [_], _ => rfl, .nil⟩
theorem sc_Store_idle : FnScope ["self", "many", "turn"] ["self", "many"] (defScope s_Store_idle) := ⟨rfl, rfl, rfl, by decide +kernel, rfl, by decide +kernel, by decide +kernel⟩
theorem ok_Store_idle (T : Tx K mg) (pf : PFZ K) : ∃ fd, FunD K "idle" "Store.idle" (defArgs s_Store_idle) (defBody s_Store_idle) (defScope s_Store_idle) [] [("many", V.int 1)] (He.fAd K ("Store", some "idle")) fd ∧ FnOk P w K mg base CX0 5 (He.fAd K ("Store", some "idle")) fd ["self", "many"] (sp_Store_idle K) := by
  obtain ⟨fd, F⟩ := T.def_ 42 (d := d_Store_idle) rfl
  refine ⟨fd, F, F.ok sc_Store_idle len_Store_idle (fun cdv A outer s H vs Q E hr h => ⟨t_Store_idle K, PSs.nox ?_, pure_Store_idle pf.toPF h⟩)⟩
  have nd := (sc_Store_idle).nd
  exact (pss_cons (ps_if (pt_not (pt_val (pe_c (cal_within T pf) hr (by decide) rfl (pa_cons (pv 1) (pa_cons pe_int (pa_cons (pe_gc rfl (T.gc_MOST_IDLE)) pa_nil)))))) (pss_one ps_never) pss_nil)
    (pss_one (ps_ret (pe_lc (own := [("turn", 2)]) rfl nd (pi_range1 rfl T.fr_range (pa_cons (pe_callB (call_min2 rfl) rfl T.fr_min boot_min (pa_cons (pv 1) (pa_cons (pe_callB call_len_seq rfl T.fr_len boot_len (pa_cons (pe_fld (pe_fld (pv 0) rfl) rfl) pa_nil)) pa_nil))) pa_nil)) (blkOk_by (N := ["self", "many", "turn"]) (sc := defScope s_Store_idle) (by decide +kernel)) (fun _ _ _ _ _ => (pg_name (i := 2) nd rfl (by first | exact Or.inl rfl | exact Or.inr rfl))) (fun _ _ _ _ _ => pts_nil) (fun _ _ _ _ _ => (pe_mt0 (met_Store_serve T pf) hr (by decide) (pv 0)))))))
theorem met_Store_idle (T : Tx K mg) (pf : PFZ K) : Met P w K mg base 5 (He.ga K "Store") "idle" (sp_Store_idle K) (dv_Store_idle K) := by
  obtain ⟨fd, F, G⟩ := ok_Store_idle (P := P) (w := w) (base := base) T pf
  obtain ⟨ds, rd, bd⟩ := F.binds0 (ps := ["self", "many"]) 1 (by decide) rfl (fun D doc pm an cdv ct us ks h1 h2 => match us, h1, ks, h2 with | [_], _, [_], _ => ⟨_, _, _, _, _, _, rfl, rfl, rfl⟩)
  exact ⟨_, fd, _, ds, T.cl_Store, T.mt_Store_idle, G, bd, rd⟩
theorem kt_Store_idle_many (T : Tx K mg) (pf : PFZ K) : KMet P w K mg base 5 (He.ga K "Store") "idle" [Str.ofString "many"] (sp_Store_idle K) kg_Store_idle_many := by
  obtain ⟨fd, F, G⟩ := ok_Store_idle (P := P) (w := w) (base := base) T pf
  obtain ⟨mv, kb⟩ := F.kbinds0 (ps := ["self", "many"]) 1 [Str.ofString "many"] [] (fun us mv ws => (us) ++ ((ws.drop 0).take 1)) (by decide) (by decide) (fun r1 r2 r3 => (r1.append ((r3.drop 0).take 1))) (fun D doc pm an cdv ct us mv ws h1 h2 h3 => match us, h1, mv, h2, ws, h3 with | [_], _, [], _, [_], _ => rfl)
  exact ⟨_, fd, _, _, T.cl_Store, T.mt_Store_idle, G, kb⟩
theorem sc_Store_rooms : FnScope ["self"] ["self"] (defScope s_Store_rooms) := ⟨rfl, rfl, rfl, by decide +kernel, rfl, by decide +kernel, by decide +kernel⟩
theorem ok_Store_rooms (T : Tx K mg) (pf : PFZ K) : ∃ fd, FunD K "rooms" "Store.rooms" (defArgs s_Store_rooms) (defBody s_Store_rooms) (defScope s_Store_rooms) [] [] (He.fAd K ("Store", some "rooms")) fd ∧ FnOk P w K mg base CX0 2 (He.fAd K ("Store", some "rooms")) fd ["self"] (sp_Store_rooms K) := by
  obtain ⟨fd, F⟩ := T.def_ 43 (d := d_Store_rooms) rfl
  refine ⟨fd, F, F.ok sc_Store_rooms len_Store_rooms (fun cdv A outer s H vs Q E hr h => ⟨t_Store_rooms K, PSs.nox ?_, pure_Store_rooms pf.toPF h⟩)⟩
  have nd := (sc_Store_rooms).nd
  exact (pss_one (ps_ret (pe_mt0 (met_Disk_rooms T pf) hr (by decide) (pe_fld (pv 0) rfl))))
theorem met_Store_rooms (T : Tx K mg) (pf : PFZ K) : Met P w K mg base 2 (He.ga K "Store") "rooms" (sp_Store_rooms K) [] := by
  obtain ⟨fd, F, G⟩ := ok_Store_rooms (P := P) (w := w) (base := base) T pf
  exact ⟨_, fd, _, [], T.cl_Store, T.mt_Store_rooms, G, F.bindsN fun _ _ _ _ _ _ us hl => match us, hl with | [_], _ => rfl, .nil⟩
theorem sc__law_cell_at : FnScope ["_law_script", "_law_k"] ["_law_script", "_law_k"] (defScope s__law_cell_at) := ⟨rfl, rfl, rfl, by decide +kernel, rfl, by decide +kernel, by decide +kernel⟩
theorem ok__law_cell_at (T : Tx K mg) (pf : PFZ K) : ∃ fd, FunD K "_law_cell_at" "_law_cell_at" (defArgs s__law_cell_at) (defBody s__law_cell_at) (defScope s__law_cell_at) [] [] (He.fAd K ("_law_cell_at", none)) fd ∧ FnOk P w K mg base CX0 1 (He.fAd K ("_law_cell_at", none)) fd ["_law_script", "_law_k"] (sp__law_cell_at K) := by
  obtain ⟨fd, F⟩ := T.def_ 45 (d := d__law_cell_at) rfl
  refine ⟨fd, F, F.ok sc__law_cell_at len__law_cell_at (fun cdv A outer s H vs Q E hr h => ⟨t__law_cell_at K, PSs.nox ?_, pure__law_cell_at pf.toPF h⟩)⟩
  have nd := (sc__law_cell_at).nd
  exact (pss_cons (ps_if (pt_cmpR op_lt (pv 1) (pe_callB call_len_seq rfl T.fr_len boot_len (pa_cons (pv 0) pa_nil)) (nomark _)) (pss_one (ps_ret (pe_ix ix_list (pv 0) (pv 1) (fun _ _ => rfl)))) pss_nil)
    (pss_one (ps_ret pe_int)))
theorem cal__law_cell_at (T : Tx K mg) (pf : PFZ K) : Cal P w K mg base 1 "_law_cell_at" (sp__law_cell_at K) [] := by
  obtain ⟨fd, F, G⟩ := ok__law_cell_at (P := P) (w := w) (base := base) T pf
  exact ⟨_, fd, _, [], G, T.gl__law_cell_at, F.kp, F.bindsN fun _ _ _ _ _ _ us hl => match us, hl with | [_, _], _ => rfl, .nil⟩
theorem sc__law_draw : FnScope ["_law_cell", "_law_k", "_law_most", "_law_primes"] ["_law_cell", "_law_k", "_law_most"] (defScope s__law_draw) := ⟨rfl, rfl, rfl, by decide +kernel, rfl, by decide +kernel, by decide +kernel⟩
theorem ok__law_draw (T : Tx K mg) (pf : PFZ K) : ∃ fd, FunD K "_law_draw" "_law_draw" (defArgs s__law_draw) (defBody s__law_draw) (defScope s__law_draw) [] [] (He.fAd K ("_law_draw", none)) fd ∧ FnOk P w K mg base CX0 1 (He.fAd K ("_law_draw", none)) fd ["_law_cell", "_law_k", "_law_most"] (sp__law_draw K) := by
  obtain ⟨fd, F⟩ := T.def_ 46 (d := d__law_draw) rfl
  refine ⟨fd, F, F.ok sc__law_draw len__law_draw (fun cdv A outer s H vs Q E hr h => ⟨t__law_draw K, PSs.nox ?_, pure__law_draw pf.toPF h⟩)⟩
  have nd := (sc__law_draw).nd
  exact (pss_cons (ps_set (i := 3) nd rfl (by first | exact Or.inl rfl | exact Or.inr rfl) (pe_tup (pa_cons pe_int (pa_cons pe_int (pa_cons pe_int (pa_cons pe_int (pa_cons pe_int (pa_cons pe_int (pa_cons pe_int (pa_cons pe_int (pa_cons pe_int (pa_cons pe_int (pa_cons pe_int (pa_cons pe_int (pa_cons pe_int (pa_cons pe_int (pa_cons pe_int (pa_cons pe_int pa_nil))))))))))))))))))
    (pss_one (ps_ret (pe_op op_mod (pe_op op_mod (pe_op op_add (pe_op op_mul (pv 0) pe_int) (pe_op op_mul (pv 1) pe_int)) (pe_ix ix_tup (pv 3) (pe_op op_mod (pv 1) pe_int) (fun _ _ => rfl))) (pv 2)))))
theorem cal__law_draw (T : Tx K mg) (pf : PFZ K) : Cal P w K mg base 1 "_law_draw" (sp__law_draw K) [] := by
  obtain ⟨fd, F, G⟩ := ok__law_draw (P := P) (w := w) (base := base) T pf
  exact ⟨_, fd, _, [], G, T.gl__law_draw, F.kp, F.bindsN fun _ _ _ _ _ _ us hl => match us, hl with | [_, _, _], _ => rfl, .nil⟩
theorem sc__law_number : FnScope ["_law_cell", "_law_k", "_law_limit", "_law_rest", "_law_turn", "_law_small"] ["_law_cell", "_law_k", "_law_limit"] (defScope s__law_number) := ⟨rfl, rfl, rfl, by decide +kernel, rfl, by decide +kernel, by decide +kernel⟩
theorem ok__law_number (T : Tx K mg) (pf : PFZ K) : ∃ fd, FunD K "_law_number" "_law_number" (defArgs s__law_number) (defBody s__law_number) (defScope s__law_number) [] [] (He.fAd K ("_law_number", none)) fd ∧ FnOk P w K mg base CX0 2 (He.fAd K ("_law_number", none)) fd ["_law_cell", "_law_k", "_law_limit"] (sp__law_number K) := by
  obtain ⟨fd, F⟩ := T.def_ 47 (d := d__law_number) rfl
  refine ⟨fd, F, F.ok sc__law_number len__law_number (fun cdv A outer s H vs Q E hr h => ⟨t__law_number K, PSs.nox ?_, pure__law_number pf.toPF h⟩)⟩
  have nd := (sc__law_number).nd
  exact (pss_cons (ps_set (i := 3) nd rfl (by first | exact Or.inl rfl | exact Or.inr rfl) (pe_op op_sub (pv 0) (pe_op op_pow pe_int pe_int)))
    (pss_cons (ps_for PassesOwn.never rfl (pi_range1 rfl T.fr_range (pa_cons (pe_op op_mod (pv 1) pe_int) pa_nil)) (pg_name (i := 4) nd rfl (by first | exact Or.inl rfl | exact Or.inr rfl)) (pss_one (ps_set (i := 3) nd rfl (by first | exact Or.inl rfl | exact Or.inr rfl) (pe_op op_fdiv (pv 3) pe_int))))
    (pss_cons (ps_if (pt_cmpR op_gt (pv 3) pe_int (nomark _)) (pss_one (ps_ret (pe_op op_mod (pe_op op_mod (pv 3) pe_int) (pv 2)))) pss_nil)
    (pss_cons (ps_set (i := 5) nd rfl (by first | exact Or.inl rfl | exact Or.inr rfl) (pe_op op_mod (pv 0) pe_int))
    (pss_one (ps_ret (pe_op op_mod (pe_c (cal__law_draw T pf) hr (by decide) rfl (pa_cons (pe_op op_mul (pe_op op_add (pv 5) (pe_op op_mul pe_int (pv 1))) (pe_op op_add (pe_op op_add (pv 5) (pe_op op_mul pe_int (pv 1))) pe_int)) (pa_cons (pe_op op_add (pe_op op_mod (pv 1) pe_int) pe_int) (pa_cons pe_int pa_nil)))) (pv 2))))))))
theorem cal__law_number (T : Tx K mg) (pf : PFZ K) : Cal P w K mg base 2 "_law_number" (sp__law_number K) [] := by
  obtain ⟨fd, F, G⟩ := ok__law_number (P := P) (w := w) (base := base) T pf
  exact ⟨_, fd, _, [], G, T.gl__law_number, F.kp, F.bindsN fun _ _ _ _ _ _ us hl => match us, hl with | [_, _, _], _ => rfl, .nil⟩
theorem sc__law_next : FnScope ["_law_state", "_law_limit", "_law_at", "_law_cell"] ["_law_state", "_law_limit"] (defScope s__law_next) := ⟨rfl, rfl, rfl, by decide +kernel, rfl, by decide +kernel, by decide +kernel⟩
theorem ok__law_next (T : Tx K mg) (pf : PFZ K) : ∃ fd, FunD K "_law_next" "_law_next" (defArgs s__law_next) (defBody s__law_next) (defScope s__law_next) [] [] (He.fAd K ("_law_next", none)) fd ∧ FnOk P w K mg base CX0 3 (He.fAd K ("_law_next", none)) fd ["_law_state", "_law_limit"] (sp__law_next K) := by
  obtain ⟨fd, F⟩ := T.def_ 48 (d := d__law_next) rfl
  refine ⟨fd, F, F.ok sc__law_next len__law_next (fun cdv A outer s H vs Q E hr h => ⟨t__law_next K, PSs.nox ?_, pure__law_next pf.toPF h⟩)⟩
  have nd := (sc__law_next).nd
  exact (pss_cons (ps_asg (pe_op op_add (pe_ix ix_list (pv 0) pe_int (fun _ _ => rfl)) pe_int) (pg_sub (pv 0) pe_int set_list))
    (pss_cons (ps_set (i := 2) nd rfl (by first | exact Or.inl rfl | exact Or.inr rfl) (pe_op op_fdiv (pe_ix ix_list (pv 0) pe_int (fun _ _ => rfl)) pe_int))
    (pss_cons (ps_set (i := 3) nd rfl (by first | exact Or.inl rfl | exact Or.inr rfl) (pe_op op_add (pe_c (cal__law_cell_at T pf) hr (by decide) rfl (pa_cons (pe_ix ix_list (pv 0) pe_int (fun _ _ => rfl)) (pa_cons (pe_op op_add (pe_ix ix_list (pv 0) pe_int (fun _ _ => rfl)) (pv 2)) pa_nil))) (pe_op op_mul pe_int (pv 2))))
    (pss_one (ps_ret (pe_c (cal__law_number T pf) hr (by decide) rfl (pa_cons (pv 3) (pa_cons (pe_op op_add (pe_op op_mod (pe_ix ix_list (pv 0) pe_int (fun _ _ => rfl)) pe_int) pe_int) (pa_cons (pv 1) pa_nil)))))))))
theorem cal__law_next (T : Tx K mg) (pf : PFZ K) : Cal P w K mg base 3 "_law_next" (sp__law_next K) [] := by
  obtain ⟨fd, F, G⟩ := ok__law_next (P := P) (w := w) (base := base) T pf
  exact ⟨_, fd, _, [], G, T.gl__law_next, F.kp, F.bindsN fun _ _ _ _ _ _ us hl => match us, hl with | [_, _], _ => rfl, .nil⟩
theorem sc__law_with : FnScope ["_law_disk", "_law_much", "_law_found", "_law_lot", "_law_room", "_law_number_here"] ["_law_disk", "_law_much"] (defScope s__law_with) := ⟨rfl, rfl, rfl, by decide +kernel, rfl, by decide +kernel, by decide +kernel⟩
theorem ok__law_with (T : Tx K mg) (pf : PFZ K) : ∃ fd, FunD K "_law_with" "_law_with" (defArgs s__law_with) (defBody s__law_with) (defScope s__law_with) [] [] (He.fAd K ("_law_with", none)) fd ∧ FnOk P w K mg base CX0 1 (He.fAd K ("_law_with", none)) fd ["_law_disk", "_law_much"] (sp__law_with K) := by
  obtain ⟨fd, F⟩ := T.def_ 49 (d := d__law_with) rfl
  refine ⟨fd, F, F.ok sc__law_with len__law_with (fun cdv A outer s H vs Q E hr h => ⟨t__law_with K, PSs.nox ?_, pure__law_with pf.toPF h⟩)⟩
  have nd := (sc__law_with).nd
  exact (pss_cons (ps_set (i := 2) nd rfl (by first | exact Or.inl rfl | exact Or.inr rfl) (pe_callTy call_list_of rfl T.fr_list boot_list (pa_cons (pe_dget (hu_of hr) (pv 0) pe_str (fun _ _ => rfl)) pa_nil)))
    (pss_cons (ps_for PassesOwn.never rfl (pi_list (pe_slice sl_list (pe_dget (hu_of hr) (pv 0) pe_str (fun _ _ => rfl)) po_none (po_some (pv 1)))) (pg_name (i := 3) nd rfl (by first | exact Or.inl rfl | exact Or.inr rfl)) (pss_one (ps_for PassesOwn.never rfl (pi_list (pv 3)) (pg_tup rfl (pgs_cons (pg_name (i := 4) nd rfl (by first | exact Or.inl rfl | exact Or.inr rfl)) (pgs_cons (pg_name (i := 5) nd rfl (by first | exact Or.inl rfl | exact Or.inr rfl)) pgs_nil))) (pss_one (ps_asg (pv 5) (pg_sub (pv 2) (pv 4) set_list))))))
    (pss_one (ps_ret (pv 2)))))
theorem cal__law_with (T : Tx K mg) (pf : PFZ K) : Cal P w K mg base 1 "_law_with" (sp__law_with K) [] := by
  obtain ⟨fd, F, G⟩ := ok__law_with (P := P) (w := w) (base := base) T pf
  exact ⟨_, fd, _, [], G, T.gl__law_with, F.kp, F.bindsN fun _ _ _ _ _ _ us hl => match us, hl with | [_, _], _ => rfl, .nil⟩
theorem sc__law_may_have : FnScope ["_law_disk", "_law_lot", "_law_room", "_law_here", "_law_number_here"] ["_law_disk", "_law_lot", "_law_room"] (defScope s__law_may_have) := ⟨rfl, rfl, rfl, by decide +kernel, rfl, by decide +kernel, by decide +kernel⟩
theorem ok__law_may_have (T : Tx K mg) (pf : PFZ K) : ∃ fd, FunD K "_law_may_have" "_law_may_have" (defArgs s__law_may_have) (defBody s__law_may_have) (defScope s__law_may_have) [] [] (He.fAd K ("_law_may_have", none)) fd ∧ FnOk P w K mg base CX0 2 (He.fAd K ("_law_may_have", none)) fd ["_law_disk", "_law_lot", "_law_room"] (sp__law_may_have K) := by
  obtain ⟨fd, F⟩ := T.def_ 50 (d := d__law_may_have) rfl
  refine ⟨fd, F, F.ok sc__law_may_have len__law_may_have (fun cdv A outer s H vs Q E hr h => ⟨t__law_may_have K, PSs.nox ?_, pure__law_may_have pf.toPF h⟩)⟩
  have nd := (sc__law_may_have).nd
  exact (pss_one (ps_ret (pe_op op_cat (pe_lst (pa_cons (pe_ix ix_list (pe_c (cal__law_with T pf) hr (by decide) rfl (pa_cons (pv 0) (pa_cons (pv 1) pa_nil))) (pv 2) (fun _ _ => rfl)) pa_nil)) (pe_lc (own := [("_law_here", 3), ("_law_number_here", 4)]) rfl nd (pi_list (pe_ix ix_list (pe_dget (hu_of hr) (pv 0) pe_str (fun _ _ => rfl)) (pv 1) (fun _ _ => rfl))) (blkOk_by (N := ["_law_disk", "_law_lot", "_law_room", "_law_here", "_law_number_here"]) (sc := defScope s__law_may_have) (by decide +kernel)) (fun _ _ _ _ _ => (pg_tup rfl (pgs_cons (pg_name (i := 3) nd rfl (by first | exact Or.inl rfl | exact Or.inr rfl)) (pgs_cons (pg_name (i := 4) nd rfl (by first | exact Or.inl rfl | exact Or.inr rfl)) pgs_nil)))) (fun _ _ _ _ _ => (pts_one (pt_cmpR op_eq (pv 3) (pv 2) (nomark _)))) (fun _ _ _ _ _ => (pv 4))))))
theorem cal__law_may_have (T : Tx K mg) (pf : PFZ K) : Cal P w K mg base 2 "_law_may_have" (sp__law_may_have K) [] := by
  obtain ⟨fd, F, G⟩ := ok__law_may_have (P := P) (w := w) (base := base) T pf
  exact ⟨_, fd, _, [], G, T.gl__law_may_have, F.kp, F.bindsN fun _ _ _ _ _ _ us hl => match us, hl with | [_, _, _], _ => rfl, .nil⟩
theorem sc__law_led : FnScope ["_law_state", "_law_rooms", "_law_disk", "_law_store", "_law_turn", "_law_sort"] ["_law_state", "_law_rooms"] (defScope s__law_led) := ⟨rfl, rfl, rfl, by decide +kernel, rfl, by decide +kernel, by decide +kernel⟩
theorem ok__law_led (T : Tx K mg) (pf : PFZ K) : ∃ fd, FunD K "_law_led" "_law_led" (defArgs s__law_led) (defBody s__law_led) (defScope s__law_led) [] [] (He.fAd K ("_law_led", none)) fd ∧ FnOk P w K mg base CX0 8 (He.fAd K ("_law_led", none)) fd ["_law_state", "_law_rooms"] (sp__law_led K) := by
  obtain ⟨fd, F⟩ := T.def_ 51 (d := d__law_led) rfl
  refine ⟨fd, F, F.ok sc__law_led len__law_led (fun cdv A outer s H vs Q E hr h => ⟨t__law_led K, PSs.nox ?_, pure__law_led pf.toPF h⟩)⟩
  have nd := (sc__law_led).nd
  exact (pss_cons (ps_set (i := 2) nd rfl (by first | exact Or.inl rfl | exact Or.inr rfl) (pe_mk (mak_Disk T pf) hr (by decide) rfl (pa_cons (pv 1) pa_nil)))
    (pss_cons (ps_set (i := 3) nd rfl (by first | exact Or.inl rfl | exact Or.inr rfl) (pe_mkK (km_Store_frames_dirty T pf) hr (by decide) rfl (pa_cons (pv 2) pa_nil) (pk_cons pe_int (pk_cons pe_int pk_nil))))
    (pss_cons (ps_for PassesOwn.never rfl (pi_range1 rfl T.fr_range (pa_cons (pe_op op_add pe_int (pe_c (cal__law_next T pf) hr (by decide) rfl (pa_cons (pv 0) (pa_cons pe_int pa_nil)))) pa_nil)) (pg_name (i := 4) nd rfl (by first | exact Or.inl rfl | exact Or.inr rfl)) (pss_cons (ps_set (i := 5) nd rfl (by first | exact Or.inl rfl | exact Or.inr rfl) (pe_c (cal__law_next T pf) hr (by decide) rfl (pa_cons (pv 0) (pa_cons pe_int pa_nil))))
    (pss_one (ps_if (pt_cmpR op_lt (pv 5) pe_int (nomark _)) (pss_one (ps_expr (pe_mt (met_Store_write T pf) hr (by decide) (pv 3) (pa_cons (pe_c (cal__law_next T pf) hr (by decide) rfl (pa_cons (pv 0) (pa_cons (pv 1) pa_nil))) (pa_cons (pe_c (cal__law_next T pf) hr (by decide) rfl (pa_cons (pv 0) (pa_cons pe_int pa_nil))) pa_nil))))) (pss_one (ps_if (pt_cmpR op_eq (pv 5) pe_int (nomark _)) (pss_one (ps_expr (pe_mt0 (met_Store_order T pf) hr (by decide) (pv 3)))) (pss_one (ps_expr (pe_mtK (kt_Store_idle_many T pf) hr (by decide) (pv 3) (pk_cons pe_int pk_nil))))))))))
    (pss_one (ps_ret (pe_tup (pa_cons (pv 2) (pa_cons (pe_disp (pps_cons pe_str (pe_mt0 (met_Disk_lasting T pf) hr (by decide) (pv 2)) (pps_cons pe_str (pe_mt0 (met_Disk_lots T pf) hr (by decide) (pv 2)) pps_nil)) (by rfl) (by rfl) (fun z => by cases z) (by decide)) pa_nil))))))))
theorem cal__law_led (T : Tx K mg) (pf : PFZ K) : Cal P w K mg base 8 "_law_led" (sp__law_led K) [] := by
  obtain ⟨fd, F, G⟩ := ok__law_led (P := P) (w := w) (base := base) T pf
  exact ⟨_, fd, _, [], G, T.gl__law_led, F.kp, F.bindsN fun _ _ _ _ _ _ us hl => match us, hl with | [_, _], _ => rfl, .nil⟩
theorem sc__law_longer : FnScope ["_law_rows", "_law_numbers", "_law_found", "_law_row", "_law_number_here"] ["_law_rows", "_law_numbers"] (defScope s__law_longer) := ⟨rfl, rfl, rfl, by decide +kernel, rfl, by decide +kernel, by decide +kernel⟩
theorem ok__law_longer (T : Tx K mg) (pf : PFZ K) : ∃ fd, FunD K "_law_longer" "_law_longer" (defArgs s__law_longer) (defBody s__law_longer) (defScope s__law_longer) [] [] (He.fAd K ("_law_longer", none)) fd ∧ FnOk P w K mg base CX0 1 (He.fAd K ("_law_longer", none)) fd ["_law_rows", "_law_numbers"] (sp__law_longer K) := by
  obtain ⟨fd, F⟩ := T.def_ 53 (d := d__law_longer) rfl
  refine ⟨fd, F, F.ok sc__law_longer len__law_longer (fun cdv A outer s H vs Q E hr h => ⟨t__law_longer K, PSs.nox ?_, pure__law_longer pf.toPF h⟩)⟩
  have nd := (sc__law_longer).nd
  exact (pss_cons (ps_set (i := 2) nd rfl (by first | exact Or.inl rfl | exact Or.inr rfl) (pe_lst pa_nil))
    (pss_cons (ps_for PassesOwn.never rfl (pi_list (pv 0)) (pg_name (i := 3) nd rfl (by first | exact Or.inl rfl | exact Or.inr rfl)) (pss_one (ps_for PassesOwn.never rfl (pi_list (pv 1)) (pg_name (i := 4) nd rfl (by first | exact Or.inl rfl | exact Or.inr rfl)) (pss_one (ps_expr (pe_bm PySem.F.plainAttrs_list PySem.F.slot_list_append PySem.F.type_list_append mt_append (pv 2) (pa_cons (pe_op op_cat (pv 3) (pe_lst (pa_cons (pv 4) pa_nil))) pa_nil)))))))
    (pss_one (ps_ret (pv 2)))))
theorem cal__law_longer (T : Tx K mg) (pf : PFZ K) : Cal P w K mg base 1 "_law_longer" (sp__law_longer K) [] := by
  obtain ⟨fd, F, G⟩ := ok__law_longer (P := P) (w := w) (base := base) T pf
  exact ⟨_, fd, _, [], G, T.gl__law_longer, F.kp, F.bindsN fun _ _ _ _ _ _ us hl => match us, hl with | [_, _], _ => rfl, .nil⟩
theorem sc__law_states : FnScope ["_law_own", "_law_found", "_law_lot", "_law_some", "_law_room", "_law_one"] ["_law_own"] (defScope s__law_states) := ⟨rfl, rfl, rfl, by decide +kernel, rfl, by decide +kernel, by decide +kernel⟩
theorem ok__law_states (T : Tx K mg) (pf : PFZ K) : ∃ fd, FunD K "_law_states" "_law_states" (defArgs s__law_states) (defBody s__law_states) (defScope s__law_states) [] [] (He.fAd K ("_law_states", none)) fd ∧ FnOk P w K mg base CX0 3 (He.fAd K ("_law_states", none)) fd ["_law_own"] (sp__law_states K) := by
  obtain ⟨fd, F⟩ := T.def_ 52 (d := d__law_states) rfl
  refine ⟨fd, F, F.ok sc__law_states len__law_states (fun cdv A outer s H vs Q E hr h => ⟨t__law_states K, PSs.nox ?_, pure__law_states pf.toPF h⟩)⟩
  have nd := (sc__law_states).nd
  exact (pss_cons (ps_set (i := 1) nd rfl (by first | exact Or.inl rfl | exact Or.inr rfl) pe_dnewT)
    (pss_cons (ps_for PassesOwn.never rfl (pi_range1 rfl T.fr_range (pa_cons (pe_callB call_len_seq rfl T.fr_len boot_len (pa_cons (pe_dget (hu_of hr) (pv 0) pe_str (fun _ _ => rfl)) pa_nil)) pa_nil)) (pg_name (i := 2) nd rfl (by first | exact Or.inl rfl | exact Or.inr rfl)) (pss_cons (ps_set (i := 3) nd rfl (by first | exact Or.inl rfl | exact Or.inr rfl) (pe_lst (pa_cons (pe_lst pa_nil) pa_nil)))
    (pss_cons (ps_for PassesOwn.never rfl (pi_range1 rfl T.fr_range (pa_cons (pe_callB call_len_seq rfl T.fr_len boot_len (pa_cons (pe_dget (hu_of hr) (pv 0) pe_str (fun _ _ => rfl)) pa_nil)) pa_nil)) (pg_name (i := 4) nd rfl (by first | exact Or.inl rfl | exact Or.inr rfl)) (pss_one (ps_set (i := 3) nd rfl (by first | exact Or.inl rfl | exact Or.inr rfl) (pe_c (cal__law_longer T pf) hr (by decide) rfl (pa_cons (pv 3) (pa_cons (pe_sortSet rfl rfl T.fr_sorted rfl T.fr_set (pe_c (cal__law_may_have T pf) hr (by decide) rfl (pa_cons (pv 0) (pa_cons (pv 2) (pa_cons (pv 4) pa_nil))))) pa_nil))))))
    (pss_one (ps_for PassesOwn.never rfl (pi_list (pv 3)) (pg_name (i := 5) nd rfl (by first | exact Or.inl rfl | exact Or.inr rfl)) (pss_one (ps_dput (hu_of hr) (pv 1) (pe_callTy call_tuple_of rfl T.fr_tuple boot_tuple (pa_cons (pv 5) pa_nil)) pe_bl rfl)))))))
    (pss_one (ps_ret (pe_callTy (call_list_dT2 rfl) rfl T.fr_list boot_list (pa_cons (pv 1) pa_nil))))))
theorem cal__law_states (T : Tx K mg) (pf : PFZ K) : Cal P w K mg base 3 "_law_states" (sp__law_states K) [] := by
  obtain ⟨fd, F, G⟩ := ok__law_states (P := P) (w := w) (base := base) T pf
  exact ⟨_, fd, _, [], G, T.gl__law_states, F.kp, F.bindsN fun _ _ _ _ _ _ us hl => match us, hl with | [_], _ => rfl, .nil⟩
theorem sc__law_many_right : FnScope ["_law_lots", "_law_disk", "_law_store", "_law_lot", "_law_found", "error"] ["_law_lots"] (defScope s__law_many_right) := ⟨rfl, rfl, rfl, by decide +kernel, rfl, by decide +kernel, by decide +kernel⟩
theorem ok__law_many_right (T : Tx K mg) (pf : PFZ K) : ∃ fd, FunD K "_law_many_right" "_law_many_right" (defArgs s__law_many_right) (defBody s__law_many_right) (defScope s__law_many_right) [] [] (He.fAd K ("_law_many_right", none)) fd ∧ FnG P w K mg base CX0 14 (He.fAd K ("_law_many_right", none)) fd ["_law_lots"] (sp__law_many_right K) := by
  obtain ⟨fd, F⟩ := T.def_ 54 (d := d__law_many_right) rfl
  refine ⟨fd, F, okG (FunD.mk F.ex F.kp) sc__law_many_right len__law_many_right (fun cdv A outer s H vs Q E hr hgd h => ⟨t__law_many_right K, PSs.nox ?_, pure__law_many_right pf h⟩)⟩
  have nd := (sc__law_many_right).nd
  exact (pss_cons (ps_set (i := 1) nd rfl (by first | exact Or.inl rfl | exact Or.inr rfl) (pe_mk (mak_Disk T pf) hr (by decide) rfl (pa_cons pe_int pa_nil)))
    (pss_cons (ps_set (i := 2) nd rfl (by first | exact Or.inl rfl | exact Or.inr rfl) (pe_mkK (km_Store_frames_dirty_patience T pf) hr (by decide) rfl (pa_cons (pv 1) pa_nil) (pk_cons pe_int (pk_cons pe_int (pk_cons pe_int pk_nil)))))
    (pss_cons (ps_for PassesOwn.never rfl (pi_range1 rfl T.fr_range (pa_cons (pv 0) pa_nil)) (pg_name (i := 3) nd rfl (by first | exact Or.inl rfl | exact Or.inr rfl)) (pss_cons (ps_expr (pe_mt (met_Store_write T pf) hr (by decide) (pv 2) (pa_cons pe_int (pa_cons (pe_op op_add pe_int (pv 3)) pa_nil))))
    (pss_one (ps_expr (pe_mt0 (met_Store_order T pf) hr (by decide) (pv 2))))))
    (pss_cons (ps_expr (pe_mtK (kt_Store_idle_many T pf) hr (by decide) (pv 2) (pk_cons pe_int pk_nil)))
    (pss_cons (ps_try_as (i := 5) (tb := fun W => (tAsg (tCallS (sp_count K) (WE W) (tCons (tVar 1) tNil)) (gName 4))) (ts := fun a cls d => (tRet (tAndV (tGiven (cls = .ref (He.ga K "TooMany") ∧ d = none) (tCB (rIsE K (He.ga K "TooMany") a) (tCons (tVar 5) (tCons (tC (.ref (He.ga K "TooMany"))) tNil)))) (tAndV (tGiven (cls = .ref (He.ga K "TooMany") ∧ d = none) (tCB (rIsE K (He.ga K "TooMany") a) (tCons (tVar 5) (tCons (tC (.ty "ValueError")) tNil)))) (tOp xGt (tVar 0) (tC (.int 10))))))) (Wout := fun _ _ _ _ => False) rfl rfl nd rfl rfl ⟨rfl, by decide, Or.inl T.gl_RoomError⟩ takes0 (fun W pn xe tk _ => (pss_one (ps_set (i := 4) nd rfl (by first | exact Or.inl rfl | exact Or.inr rfl) (pe_cS (cal_count T pf) hr (by decide) (fun σ => passAt tk σ) rfl (pa_cons (pv 1) pa_nil))))) (fun a oe cls d pn hz hf => (pss_one (ps_ret (pe_and (pe_isE T.ec_TooMany hz hf rfl T.fr_isinstance (pa_cons (pv 5) (pa_cons (pe_gc rfl (T.gv_TooMany)) pa_nil))) (pe_and (pe_isE T.ec_TooMany hz hf rfl T.fr_isinstance (pa_cons (pv 5) (pa_cons (pe_bltn (v := .ty "ValueError") rfl T.fr_ValueError boot_ValueError rfl) pa_nil))) (pe_one (pe_cmpR op_gt (pv 0) pe_int (nomark _)))))))))
    (pss_one (ps_ret (pe_and (pe_cmpR op_eq (pe_callTy (call_strD hgd hr.units) rfl T.fr_str boot_str (pa_cons (pv 4) pa_nil)) (pe_callTy (call_strD hgd hr.units) rfl T.fr_str boot_str (pa_cons (pe_op op_add (pv 0) pe_int) pa_nil)) (nomark _)) (pe_one (pe_cmpR op_lt (pv 0) pe_int (nomark _)))))))))))
theorem cal__law_many_right (T : Tx K mg) (pf : PFZ K) : CalG P w K mg base 14 "_law_many_right" (sp__law_many_right K) := by
  obtain ⟨fd, F, G⟩ := ok__law_many_right (P := P) (w := w) (base := base) T pf
  exact ⟨_, fd, _, G, T.gl__law_many_right, F.kp, F.bindsN fun _ _ _ _ _ _ us hl => match us, hl with | [_], _ => rfl⟩
theorem sc_law : FnScope ["_law_script", "_law_by", "_law_state", "_law_disk", "_law_own", "_law_states_here", "_law_some", "_law_lots", "_law_lot"] ["_law_script"] (defScope s_law) := ⟨rfl, rfl, rfl, by decide +kernel, rfl, by decide +kernel, by decide +kernel⟩
theorem ok_law (T : Tx K mg) (pf : PFZ K) : ∃ fd, FunD K "law" "law" (defArgs s_law) (defBody s_law) (defScope s_law) [] [] (He.fAd K ("law", none)) fd ∧ FnG P w K mg base CX0 15 (He.fAd K ("law", none)) fd ["_law_script"] (sp_law K) := by
  obtain ⟨fd, F⟩ := T.def_ 55 (d := d_law) rfl
  refine ⟨fd, F, okG (FunD.mk F.ex F.kp) sc_law len_law (fun cdv A outer s H vs Q E hr hgd h => ⟨t_law K, PSs.nox ?_, pure_law pf h⟩)⟩
  have nd := (sc_law).nd
  exact (pss_cons (ps_for PassesOwn.never rfl (pi_range3 rfl T.fr_range (pa_cons pe_int (pa_cons (pe_callB (call_max2 rfl) rfl T.fr_max boot_max (pa_cons pe_int (pa_cons (pe_callB (call_min2 rfl) rfl T.fr_min boot_min (pa_cons pe_int (pa_cons (pe_callB call_len_seq rfl T.fr_len boot_len (pa_cons (pv 0) pa_nil)) pa_nil))) pa_nil))) (pa_cons pe_int pa_nil)))) (pg_name (i := 1) nd rfl (by first | exact Or.inl rfl | exact Or.inr rfl)) (pss_cons (ps_set (i := 2) nd rfl (by first | exact Or.inl rfl | exact Or.inr rfl) (pe_lst (pa_cons (pv 0) (pa_cons (pv 1) (pa_cons pe_int pa_nil)))))
    (pss_cons (ps_asg (pe_c (cal__law_led T pf) hr (by decide) rfl (pa_cons (pv 2) (pa_cons (pe_op op_add pe_int (pe_c (cal__law_next T pf) hr (by decide) rfl (pa_cons (pv 2) (pa_cons pe_int pa_nil)))) pa_nil))) (pg_tup rfl (pgs_cons (pg_name (i := 3) nd rfl (by first | exact Or.inl rfl | exact Or.inr rfl)) (pgs_cons (pg_name (i := 4) nd rfl (by first | exact Or.inl rfl | exact Or.inr rfl)) pgs_nil))))
    (pss_one (ps_if (pt_cmpR op_lt (pe_callB call_len_seq rfl T.fr_len boot_len (pa_cons (pe_lc (own := [("_law_lot", 8)]) rfl nd (pi_list (pe_dget (hu_of hr) (pv 4) pe_str (fun _ _ => rfl))) (blkOk_by (N := ["_law_script", "_law_by", "_law_state", "_law_disk", "_law_own", "_law_states_here", "_law_some", "_law_lots", "_law_lot"]) (sc := defScope s_law) (by decide +kernel)) (fun _ _ _ _ _ => (pg_name (i := 8) nd rfl (by first | exact Or.inl rfl | exact Or.inr rfl))) (fun _ _ _ _ _ => (pts_one (pt_cmpR (op_neE hr.units) (pv 8) (pe_lst pa_nil) (nomark _)))) (fun _ _ _ _ _ => (pv 8))) pa_nil)) pe_int (nomark _)) (pss_cons (ps_set (i := 5) nd rfl (by first | exact Or.inl rfl | exact Or.inr rfl) (pe_c (cal__law_states T pf) hr (by decide) rfl (pa_cons (pv 4) pa_nil)))
    (pss_cons (ps_if (PW.pt (pw_or (pt_cmpR op_ne (pe_callTy (call_strD hgd hr.units) rfl T.fr_str boot_str (pa_cons (pe_lst (pa_cons (pe_cX (cal_count T pf) hr (by decide) passL rfl (pa_cons (pv 3) pa_nil)) pa_nil)) pa_nil)) (pe_callTy (call_strD hgd hr.units) rfl T.fr_str boot_str (pa_cons (pe_lst (pa_cons (pe_callB call_len_seq rfl T.fr_len boot_len (pa_cons (pv 5) pa_nil)) pa_nil)) pa_nil)) (nomark _)) (pw_or1 (pt_cmpR (op_neD hr.units) (pe_tup (pa_cons (pe_mt0 (met_Disk_lasting T pf) hr (by decide) (pv 3)) (pa_cons (pe_mt0 (met_Disk_lots T pf) hr (by decide) (pv 3)) pa_nil))) (pe_tup (pa_cons (pe_dget (hu_of hr) (pv 4) pe_str (fun _ _ => rfl)) (pa_cons (pe_dget (hu_of hr) (pv 4) pe_str (fun _ _ => rfl)) pa_nil))) (nomark _))))) (pss_one (ps_ret pe_bl)) pss_nil)
    (pss_cons (ps_set (i := 6) nd rfl (by first | exact Or.inl rfl | exact Or.inr rfl) (pe_callTy call_list_of rfl T.fr_list boot_list (pa_cons (pe_ix ix_list (pv 5) (pe_c (cal__law_next T pf) hr (by decide) rfl (pa_cons (pv 2) (pa_cons (pe_callB call_len_seq rfl T.fr_len boot_len (pa_cons (pv 5) pa_nil)) pa_nil))) (fun _ _ => rfl)) pa_nil)))
    (pss_one (ps_if (PW.pt (pw_or (pt_not (pt_val (pe_callB call_isi rfl T.fr_isinstance boot_isinstance (pa_cons (pe_c (cal_may_be T pf) hr (by decide) rfl (pa_cons (pv 3) (pa_cons (pv 6) pa_nil))) (pa_cons (pe_gc rfl (T.gv_Left)) pa_nil))))) (pw_or1 (pt_cmpR op_isnot_bl (pe_mt (met_Left_shows T pf) hr (by decide) (pe_c (cal_may_be T pf) hr (by decide) rfl (pa_cons (pv 3) (pa_cons (pv 6) pa_nil))) (pa_cons (pv 3) (pa_cons (pv 6) pa_nil))) pe_bl (nomark _))))) (pss_one (ps_ret pe_bl)) pss_nil))))) pss_nil)))))
    (pss_one (ps_ret (pe_callB (cr_all rfl) rfl T.fr_all boot_all (pa_cons (pe_lc (own := [("_law_lots", 7)]) rfl nd (pi_tup (pe_tup (pa_cons pe_int (pa_cons pe_int (pa_cons pe_int (pa_cons pe_int (pa_cons pe_int (pa_cons pe_int (pa_cons pe_int pa_nil))))))))) (blkOk_by (N := ["_law_script", "_law_by", "_law_state", "_law_disk", "_law_own", "_law_states_here", "_law_some", "_law_lots", "_law_lot"]) (sc := defScope s_law) (by decide +kernel)) (fun _ _ _ _ _ => (pg_name (i := 7) nd rfl (by first | exact Or.inl rfl | exact Or.inr rfl))) (fun _ _ _ _ _ => pts_nil) (fun _ _ _ _ _ => (pe_cG (cal__law_many_right T pf) hr (by decide) hgd rfl (pa_cons (pv 7) pa_nil)))) pa_nil)))))
end
theorem law_end {l : PySem.W.OpenLaw} {w : World} {K : PySem.W.Frag} {mg : Str → Option Value} {fa : Addr} {h : Heap} (KX : K.In h) (G : h.Ns mainGlobals mg) (hmg : mg "law" = some (.ref fa)) (c : Says K) :
    ∃ (K : PySem.W.Frag) (fd : FuncData) (sp : Sp), K.In h ∧ (∀ (s : Shared) (u : Value), BindsTo s fd ⟨[u], []⟩ [("_law_script", u)]) ∧
      (∀ (H : Hp) (a : Addr) (ns : List Int), ns.length ≤ 63 → Only H → SqL K H a (ns.map V.int) → sp [.ref a] H (fun v _ => v = .bl true) fun _ _ _ => False) ∧
      ∀ base : Heap, K.In base → base.Ns mainGlobals mg → FnG l.prog w K mg base CX0 15 fa fd ["_law_script"] sp := by
  have T : Tx K mg := ⟨c, h, KX, G⟩
  have e := hmg.symm.trans T.gl_law
  cases e
  have pf := mk_pf T
  obtain ⟨fd, F⟩ := T.def_ 55 (d := d_law) rfl
  refine ⟨K, fd, sp_law K, KX, fun s u => FunD.bindsA (ps := ["_law_script"]) F (fun _ _ _ _ _ _ us hl => match us, hl with | [_], _ => rfl) s [u] rfl, fun H a ns hl _ hS => law_start hl hS, fun base _ _ => ?_⟩
  obtain ⟨fd2, F2, G2⟩ := ok_law (P := l.prog) (w := w) (base := base) T pf
  obtain ⟨oc, od, dV, kV, doc, pm, an, cdv, ct, osl, rfl, lk, _⟩ := F.ex
  obtain ⟨oc2, od2, dV2, kV2, doc2, pm2, an2, cdv2, ct2, osl2, e2, lk2, _⟩ := F2.ex
  have e3 := lk.symm.trans lk2
  injection e3 with e3
  injection e3 with _ _ e3 _
  injection e3 with e3
  rw [e3]
  exact G2
end SY
open PySem PySem.W PySem.Calls PyProof.Rows
set_option maxRecDepth 100000 in
set_option maxHeartbeats 0 in
theorem PySem.Challenge.cw_syncrooms_k04_whole_counted_holds : PySem.Challenge.rw_syncrooms_k04_whole_counted.Holds := by
  w_on; o_law
  refine HandSHeadRun.head_any (r := OpenLaw.row PySem.Challenge.rw_syncrooms_k04_whole_counted) (q := view (OpenLaw.row PySem.Challenge.rw_syncrooms_k04_whole_counted).prog [60]) (H := SY.hk) (ob := SY.ob) (M := 20000) (loose := SY.nms) (d := HandSHeadRun.topDef (OpenLaw.row PySem.Challenge.rw_syncrooms_k04_whole_counted).prog 60) (kwd := []) SY.ob_eq
    (by kernel_rfl) (fun s => by kernel_rfl) SY.run (by kernel_rfl) (by kernel_rfl) (by kernel_rfl) (by rfl) (by first | assumption | decide +kernel) (by decide +kernel) ⟨rfl, rfl, rfl, rfl, rfl, by decide +kernel⟩ ?hw ?hc
  case hw => w_witness2
  case hc =>
    refine XB.walk_ofG (l := PySem.Challenge.rw_syncrooms_k04_whole_counted) (n := 63) (k := 15) (x := "_law_script") (CX := L2.CX0) rfl (by decide) (by kernel_rfl) ⟨rfl, by decide, by decide⟩ ?F (fun _ _ _ _ z => z)
    intro w mg fa h Y G hmg0
    obtain ⟨K, KX, c⟩ := Y
    have hmg : mg ("law" : PySem.Str) = some (.ref fa) := by
      rw [← (show (HandSHeadRun.topDef (OpenLaw.row PySem.Challenge.rw_syncrooms_k04_whole_counted).prog 60).name = ("law" : PySem.Str) by kernel_rfl)]
      exact hmg0
    exact SY.law_end KX G hmg c
