import PyProof.Rows.All
import Wide.All
import OpenK.AllK
import Wide.FinOn
import HandS.ForMost
import HandS.Defaults
import HandS.Exc
import HandS.Wide
import HandS.IsInst
import HandS.Style
import HandS.More
import HandS.WordsExc
import HandS.Head0
import HandS.Head1
import HandS.Head2
import HandS.HeadEnd
import HandS.HeadHook1
import HandS.HeadHook2
import HandS.RaiseMore
import PyProof.ReprRoads
import HandS.ExcInit
import KE.KExcSuper
import HandS.CallSlots
import HandS.ExcValue
import HandS.ExcIs
import HandS.ExcField
import KE.KExcIs
import HandS.Deep
import HandS.Conv
import HandS.WideBits
import HandS.OwnEq
import HandS.SetFor
import HandS.Star
import HandS.StrMore
import PyProof.StrLawsRepr
import HandS.DictComp
import KE.GoesEnum
import HandS.ReplaceLit
import HandS.Flow
import KE.GoesMore
import HandS.SetKeys
import KE.SortData
import KE.LtData
import PyProof.MaxThree
import KE.KRevSl
import PyProof.Rows.StrStep
import HandS.Dict
import PySem.Challenge.RW_everrow_k68_slips_and_nearest_names
set_option Elab.async false
set_option linter.all false
set_option maxRecDepth 100000
set_option maxHeartbeats 1000000
namespace Mr
open PySem PySem.Spec PyProof.Rows L2
/-! ### the written part, and where its classes stand -/
structure KK where
  K : PySem.W.Frag
  ct : Str → Option Addr
instance : Coe KK PySem.W.Frag := ⟨KK.K⟩
def ctOf (mg : Str → Option Value) : Str → Option Addr := fun x => match mg x with
  | some (.ref a) => some a
  | _ => none
abbrev _root_.L2.Cx.kk (X : Cx) : KK := ⟨X.K, ctOf X.mg⟩
/-- a caught exception's object, kept -/
def exk (a : Addr) (cls : Value) (d : Option Addr) : HO := .ext fun h => ∃ oe vs, h.get? a = some oe ∧ Zc cls d oe ∧ oe.data = .fields vs
/-- at a: an exception of the class at C, its fields fs in the dict at d -/
def KxAt (H : Hp) (a C d : Addr) (fs : List (Str × V)) : Prop := H a = some (exk a (.ref C) (some d)) ∧ H d = some (.xd fs)
/-! ### defs that are called where nothing is being shown (no guard of repr stands) -/
structure FnG (P : Program) (w : World) (K : PySem.W.Frag) (mg : Str → Option Value) (base : Heap) (CX : CXT) (k : Nat) (f : Addr) (fd : FuncData) (ps : List Str) (sp : Sp) : Prop where
  ln : ∀ ys H Q E, sp ys H Q E → ys.length = ps.length
  go : ∀ (A : Around) (out : List Env) (s : Shared) (H : Hp) (ar : Args) (zs : List Value) (ys : List V) (Q : VK) (E : XK), Room k A → A.guards = some [] → Env0 P w K mg base A out s H → BindsTo s fd ar (ps.zip zs) → Vals ys zs → sp ys H Q E →
    codeAny (model P w) A (.call (.ref f) ar) (CR CX out P w H s Q E) s
section
variable {P : Program} {w : World} {K : PySem.W.Frag} {mg : Str → Option Value} {base : Heap} {CX : CXT} {k : Nat} {f : Addr} {fd : FuncData} {ps : List Str} {sp : Sp}
theorem FnG.of (F : FnOk P w K mg base CX k f fd ps sp) : FnG P w K mg base CX k f fd ps sp := ⟨F.len, fun A out s H ar zs ys Q E r _ => F.run A out s H ar zs ys Q E r⟩
theorem FnG.up {j : Nat} (F : FnG P w K mg base CX j f fd ps sp) (h : j ≤ k) : FnG P w K mg base CX k f fd ps sp := ⟨F.ln, fun A out s H ar zs ys Q E r => F.go A out s H ar zs ys Q E (r.mono h)⟩
theorem FnG.made {x qual : Str} {params : Arguments} {body : List Stmt} {scope : Scope} {dvs : List V} {kws : List (Str × V)} {N : List Str} (D : FunD K x qual params body scope dvs kws f fd) (S : FnScope N ps scope) (ln : ∀ ys H Q E, sp ys H Q E → ys.length = ps.length)
    (hb : ∀ (cv : Value) (A : Around) (out : List Env) (s : Shared) (H : Hp) (ys : List V) (Q : VK) (E : XK), Room k (A.deeper (envOfC qual scope s.heap.objs.size f cv)) → A.guards = some [] → sp ys H Q E →
      ∃ t, PSs (cxOf CX P w K mg base N qual scope f cv A out s H E) body t ∧ t { nx := fun _ H' => Q .non H', rt := Q } (L2.start N ys) H) : FnG P w K mg base CX (k + 1) f fd ps sp := by
  obtain ⟨oc, od, dV, kV, doc, pm, an, cv, ct, osl, rfl, lk, cd, -, -⟩ := D.ex
  refine ⟨ln, fun A out s H ar zs ys Q E room hG e0 bd rel want => ?_⟩
  have at_ : ∀ b o, base.get? b = some o → s.heap.get? b = some o := fun b o e => (e0.bs b o e).1
  have KI : K.In s.heap := e0.mod.kin.keeps at_
  refine codeAny_call_function room.depth (KI _ _ lk) rfl S.co S.gen rfl (PySem.W.codeRec_of KI cd) (bd _ _ _ _ ?_)
  refine wpAny_newFunctionEnv_cells S.kind (fun z hz => ?_) fun env he s1 x => ?_
  · obtain ⟨n, v⟩ := z
    rcases S.par n (List.of_mem_zip hz).1 with q | q
    · exact .inl q
    · exact .inr ⟨q, PySem.W.cellsFrom_some _ _ _ (.inl q)⟩
  subst he
  refine ⟨(e0.mod.nolimit.keeps at_).keeps x.toInCall.keep, codeAny_func ?_⟩
  obtain ⟨t, ht, hq⟩ := hb cv A out s H ys Q E (room.deeper _) hG want
  have I : Inv (cxOf CX P w K mg base N qual scope f cv A out s H E) [] (L2.start N ys) H s1 := inv_start S room.hd e0 (ln _ _ _ _ want) rel x
  refine wpAny_mono (ht.run [] s1 (L2.start N ys) H _ I hq) (fun fl s' z => ?_) fun _ _ z => z
  cases fl with
  | ret u =>
    obtain ⟨v, σ', H', J, rv, q⟩ := z
    exact ⟨v, H', J.os, J.bare, J.base, J.hok, rv, q⟩
  | next =>
    obtain ⟨σ', H', J, q⟩ := z
    exact ⟨.non, H', J.os, J.bare, J.base, J.hok, rfl, q⟩
  | brk => obtain ⟨_, _, _, q⟩ := z; exact q.elim
  | cont => obtain ⟨_, _, _, q⟩ := z; exact q.elim
end
section
variable {X : Cx} {CX : CXT} {k : Nat} {f : Addr} {fd : FuncData} {ps : List Str} {sp : Sp} {dvs : List V} {ds : List Value} {E : XK} {x : Str} {p pos : Pos} {e : Expr} {es : List Expr} {t : TA}
theorem goes_fn {pins : List (Addr × Obj)} {σ : L2.St} {H : Hp} {s : Shared} {Q : VK} {zs : List Value} {ys : List V} (F : FnG X.prog X.w X.K X.mg X.base CX k f fd ps sp) (hr : Room k X.A) (hG : X.A.guards = some []) (hb : Binds X.K fd ps ds) (hd : Vals dvs ds) (hx : Passes CX X E)
    (I : Inv X pins σ H s) (rl : Vals ys zs) (h : sp (ys ++ dvs) H Q E) : wpAny (model X.prog X.w) X.A (call (.ref f) zs) (EP X pins σ Q) X.xe s := by
  have both : Vals (ys ++ dvs) (zs ++ ds) := rl.append hd
  have many : (zs ++ ds).length = ps.length := both.length.symm.trans (F.ln _ _ _ _ h)
  refine wpAny_call (codeAny_mono (F.go X.A X.stack s H ⟨zs, []⟩ _ _ Q E hr hG I.env0 (hb s zs I.kIn many) both h) fun r s' z => ?_)
  cases r with
  | error er => exact hx pins σ H s er s' I z
  | ok fl =>
    cases fl with
    | ret u => exact I.after z
    | next => exact z.elim
    | brk => exact z.elim
    | cont => exact z.elim
theorem pe_gcall (F : FnG X.prog X.w X.K X.mg X.base CX k f fd ps sp) (hr : Room k X.A) (hG : X.A.guards = some []) (hg : Gl X x) (hm : X.mg x = some (.ref f)) (hk : PySem.W.keepIn X.K (.ref f) = true) (hb : Binds X.K fd ps ds) (hd : Vals dvs ds) (hx : Passes CX X E)
    (ha : PA X (e :: es) t) (hdb : (x == ("__debug__" : Str)) = false := by decide) (he : starEach (e :: es) X.env = (false, eval e X.env) :: starEach es X.env := by rfl) (hpl : (backTo pos (starEach es X.env)).any (·.1) = false := by rfl) :
    PE X (.Call (.Name x p) (e :: es) [] pos) (tCall sp dvs E t) :=
  ⟨fun pins s σ H Q I h => wpAny_Call_Name_kw (ld_glob I hg hm (PySem.W.callWith_K (h₀ := X.base) I.ok.mod.kin hk (thn (ha.run pos pins s σ H _ I h) fun _ _ ⟨_, _, I1, r, q⟩ => ⟨I1.kIn, goes_fn F hr hG hb hd hx I1 r q⟩) he hpl) hdb)⟩
theorem pe_gcall0 (F : FnG X.prog X.w X.K X.mg X.base CX k f fd ps sp) (hr : Room k X.A) (hG : X.A.guards = some []) (hg : Gl X x) (hm : X.mg x = some (.ref f)) (hk : PySem.W.keepIn X.K (.ref f) = true) (hb : Binds X.K fd ps ds) (hd : Vals dvs ds) (hx : Passes CX X E)
    (hdb : (x == ("__debug__" : Str)) = false := by decide) : PE X (.Call (.Name x p) [] [] pos) (tCall sp dvs E tNil) :=
  ⟨fun pins s σ H Q I h => wpAny_Call_Name_kw (ld_glob I hg hm (PySem.W.callWith_K0 I.kIn hk (goes_fn (zs := []) F hr hG hb hd hx I .nil h)) hdb)⟩
end
/-! ### repr -/
section
variable {X : Cx} {a : Expr} {es : List Expr} {mt : MA} {p pos : Pos}
theorem call_repr (hG : X.A.guards = some []) (hu : X.A.units + 64 < cLine) : CallR X (.builtin "repr") (fun xs H Q => ∃ x d, xs = [x] ∧ Dp X.K H x d ∧ d.canLay0 = true ∧ d.showable = true ∧ d.depth ≤ 40 ∧ d.shown.length ≤ sizeLine ∧ Q (.str d.shown) H) := by
  intro pins s σ H xs us Q I r h
  obtain ⟨x, d, rfl, dp, lay, sh, de, sz, q⟩ := h
  obtain ⟨u, rfl, rx⟩ := vals1 r
  obtain ⟨as, rd⟩ := Dp.reads I d x u dp rx
  have rd' := rd
  have nd := PyData.hasDict_of_canLay d lay
  cases rd with
  | none => exact PySem.P.repr_of_none ⟨.str _, H, I.tok _, ⟨_, rfl⟩, q⟩
  | bool b => exact PySem.P.repr_of_bool ⟨.str _, H, I.tok _, ⟨_, rfl⟩, q⟩
  | int i t => exact PySem.P.repr_of_int (by simpa [PyData.showable] using sh) ⟨.str _, H, I.tok _, ⟨_, rfl⟩, q⟩
  | str y t => exact PySem.P.repr_of_str ⟨.str _, H, I.tok _, ⟨_, rfl⟩, q⟩ sz
  | _ => exact repr_of_reads' rd' sh (PyData.noDict_hsm nd) hG (by omega) (fun _ _ e => e) (fun h' u tk kk => ⟨.str _, H, I.kept kk, ⟨_, rfl⟩, q⟩) sz
end
/-! ### the head, for a law's def that wants no guard -/
section
variable {P : Program} {w : World} {K : PySem.W.Frag} {mg mb : Str → Option Value} {CX : CXT} {k : Nat} {fa a : Addr} {fd : FuncData} {x : Str} {sp : Sp} {s₁ : Shared} {vs : List Value} {ns : List Int}
/-- from one abstract heap that knows at most the script -/
theorem law_one (KX : K.In s₁.heap) (hns : s₁.heap.Ns mainGlobals mg) (hb : s₁.heap.Ns builtinsNs mb) (hbb : ∀ x : Str, x ≠ "__name__" → mb x = bootBuiltins x) (hlim : s₁.heap.NoLimit) (hg : s₁.gens = #[])
    (ha : s₁.heap.get? a = some { cls := .type "list", data := .seq vs.toArray }) (hr : Room k callerA) (F : ∀ base : Heap, K.In base → base.Ns mainGlobals mg → FnG P w K mg base CX k fa fd [x] sp)
    (hbind : ∀ (s : Shared) (u : Value), BindsTo s fd ⟨[u], []⟩ [(x, u)]) (hCX : ∀ H e s', CX [] H s₁ (fun _ _ _ => False) e s' → False)
    {H : Hp} (only : Only H) (at_ : ∀ b, H b ≠ none → b = a) (notK : H a ≠ none → K.lookup a = none) (hok : HOk P w H s₁.heap) (want : sp [.ref a] H (fun v _ => v = .bl true) fun _ _ _ => False) :
    codeAny (model P w) callerA (.call (.ref fa) ⟨[.ref a], []⟩) (fun r s' => r = .ok (.ret (.bool true)) ∧ OldK s₁.heap s'.heap ∧ s'.os = s₁.os ∧ AllBare s'.gens) s₁ := by
  have low : ∀ {b : Addr} {o : Obj}, s₁.heap.get? b = some o → H b = none → (hidT s₁.heap H).get? b = some o := fun e n => hidT_get e n
  have dictLow : ∀ {b : Addr} {m : Str → Option Value}, s₁.heap.Ns b m → (hidT s₁.heap H).Ns b m := fun {b m} ⟨o, es, ep, e, d, z⟩ => ⟨o, es, ep, low e (by
    cases q : H b with
    | none => rfl
    | some u =>
      have eb := at_ b (by rw [q]; exact fun z => by cases z)
      subst eb
      rw [ha] at e
      cases e
      have d2 : Data.seq vs.toArray _ = Data.dict es ep := d
      cases d2), d, z⟩
  have inLow : K.In (hidT s₁.heap H) := fun b o e => low (KX b o e) (by
    cases q : H b with
    | none => rfl
    | some u =>
      have eb := at_ b (by rw [q]; exact fun z => by cases z)
      subst eb
      rw [notK (by rw [q]; exact fun z => by cases z)] at e
      cases e)
  have md : Mod K mg (hidT s₁.heap H) := ⟨inLow, dictLow hns, ⟨mb, dictLow hb, hbb⟩, by
    obtain ⟨mc, h1, h2⟩ := hlim
    exact ⟨mc, dictLow h1, h2⟩⟩
  have e0 : Env0 P w K mg (hidT s₁.heap H) callerA [] s₁ H := ⟨rfl, md, fun b o e => of_hidT e, Nat.le_of_eq (hidT_size _ _), trivial, fun b hb => (by cases hb), hok, .of_eq hg⟩
  refine codeAny_mono ((F _ inLow (dictLow hns)).go callerA [] s₁ H ⟨[.ref a], []⟩ [.ref a] [.ref a] _ _ hr rfl e0 (hbind s₁ (.ref a)) (.cons rfl .nil) want) fun r s' z => ?_
  match r, z with
  | .error er, z => exact (hCX H er s' z).elim
  | .ok .next, z => exact z.elim
  | .ok .brk, z => exact z.elim
  | .ok .cont, z => exact z.elim
  | .ok (.ret u), z =>
    obtain ⟨v, H', os, bare, un, hok', rv, q⟩ := z
    have q' : v = .bl true := q
    subst q'
    have ru : u = Value.bool true := rv
    subst ru
    refine ⟨rfl, OldK.of_keep fun b o e => ?_, os, bare⟩
    cases q : H b with
    | none => exact un.keep b o e q (fun z => by cases z) (fun z => by cases z)
    | some u =>
      rcases only b with z | ⟨ob, ys, z⟩
      · rw [q] at z; cases z
      · obtain ⟨e1, -⟩ := hok b _ z
        obtain ⟨e2, -⟩ := hok' b _ (un.frzs b ob _ z)
        rw [e] at e1
        cases e1
        exact e2
theorem law_go (KX : K.In s₁.heap) (hns : s₁.heap.Ns mainGlobals mg) (hb : s₁.heap.Ns builtinsNs mb) (hbb : ∀ x : Str, x ≠ "__name__" → mb x = bootBuiltins x) (hlim : s₁.heap.NoLimit) (hg : s₁.gens = #[])
    (ha : s₁.heap.get? a = some { cls := .type "list", data := .seq vs.toArray }) (hi : IntsAre vs ns) (hl : ns.length ≤ sizeLine) (hr : Room k callerA)
    (F : ∀ base : Heap, K.In base → base.Ns mainGlobals mg → FnG P w K mg base CX k fa fd [x] sp) (hbind : ∀ (s : Shared) (u : Value), BindsTo s fd ⟨[u], []⟩ [(x, u)])
    (hsp : ∀ H : Hp, Only H → SqL K H a (ns.map V.int) → sp [.ref a] H (fun v _ => v = .bl true) fun _ _ _ => False) (hCX : ∀ H e s', CX [] H s₁ (fun _ _ _ => False) e s' → False) :
    codeAny (model P w) callerA (.call (.ref fa) ⟨[.ref a], []⟩) (fun r s' => r = .ok (.ret (.bool true)) ∧ OldK s₁.heap s'.heap ∧ s'.os = s₁.os ∧ AllBare s'.gens) s₁ := by
  have rv := vals_ints hi
  cases hk : K.lookup a with
  | some o =>
    have e := KX a o hk
    rw [ha] at e
    cases e
    have o0 : Only fun _ => none := fun _ => .inl rfl
    exact law_one (H := fun _ => none) KX hns hb hbb hlim hg ha hr F hbind hCX o0 (fun b z => absurd rfl z) (fun z => absurd rfl z) (fun b u z => (by cases z))
      (hsp _ o0 (.inr ⟨_, vs.toArray, _, hk, rfl, rfl, rfl, by rw [List.size_toArray, hi.length]; exact hl, by simpa using rv⟩))
  | none =>
    have one : ∀ b, (fun c => if c = a then some (HO.frz { cls := .type "list", data := .seq vs.toArray } (.lst (ns.map V.int))) else none) b = none ∨ b = a := fun b => by
      by_cases e : b = a
      · exact .inr e
      · exact .inl (if_neg e)
    have o1 : Only fun c => if c = a then some (HO.frz { cls := .type "list", data := .seq vs.toArray } (.lst (ns.map V.int))) else none := fun b => by
      rcases one b with e | e
      · exact .inl e
      · exact .inr ⟨_, _, if_pos e⟩
    refine law_one KX hns hb hbb hlim hg ha hr F hbind hCX o1 (fun b z => (one b).resolve_left z) (fun _ => hk) (fun b u z => ?_) (hsp _ o1 (.inl (.inr ⟨_, if_pos rfl⟩)))
    rcases one b with e | e
    · have z3 := e.symm.trans z
      cases z3
    · subst e
      have z2 := (if_pos rfl).symm.trans z
      cases z2
      exact ⟨ha, by rw [List.length_map]; exact hl, vs, _, rv, ha⟩
end
theorem walk_go {l : PySem.W.OpenLaw} {n k : Nat} {q : Program} {loose : List Str} {XP : (Str → Option Value) → Heap → Prop} {YP : World → Heap → Prop} {d : DefRec} {CX : World → CXT} {x : Str}
    (hn : l.most = some n) (hn2 : n ≤ sizeLine) (hdf : d.params.defaults = []) (hr : Room k callerA)
    (F : ∀ (w : World) (mg : Str → Option Value) (fa : Addr) (h : Heap), YP w h → h.Ns mainGlobals mg → mg d.name = some (.ref fa) →
      ∃ (K : PySem.W.Frag) (fd : FuncData) (sp : Sp), K.In h ∧ (∀ (s : Shared) (u : Value), BindsTo s fd ⟨[u], []⟩ [(x, u)]) ∧
        (∀ (H : Hp) (a : Addr) (ns : List Int), ns.length ≤ n → Only H → SqL K H a (ns.map V.int) → sp [.ref a] H (fun v _ => v = .bl true) fun _ _ _ => False) ∧
        ∀ base : Heap, K.In base → base.Ns mainGlobals mg → FnG l.prog w K mg base (CX w) k fa fd [x] sp)
    (hCX : ∀ (w : World) (H : Hp) (s : Shared) (e : Value) (s' : Shared), CX w [] H s (fun _ _ _ => False) e s' → False) :
    PySem.W.WalkO q loose XP YP l.row.toRowW d [] (fun f vs => PySem.call f vs) := by
  refine Att.attach_call hn hdf fun w s0 s1 mg mb fa o pm cd doc a vs ns G Y ho hd hcd hmg hobj hints hlen hg => ?_
  obtain ⟨K, fd, sp, KX, bd, want, FF⟩ := F w mg fa _ Y G.T.g hmg
  exact law_go KX G.T.g G.T.b G.T.builtins G.T.nolimit hg hobj hints (Nat.le_trans hlen hn2) hr FF bd (fun H o1 o2 => want H a ns hlen o1 o2) fun H e s' => hCX w H s1 e s'
/-! ### an own exception's __init__: super().__init__(v), self.f = v -/
def spIni (C : Addr) (fld : Str) : Sp := fun ys H Q _ => ∃ a y, ys = [.ref a, y] ∧ H a = some (exo a C none) ∧ ∀ dx, H dx = none → dx ≠ a → Q .non (upd (upd H dx (exd dx [(fld, y)])) a (exo a C (some dx)))
/-- the bound ValueError.__init__ is called -/
theorem mw_call {prog : Program} {w : World} {A : Around} {E : Value → Shared → Prop} {h : Heap} {g : Array GenState} {d : Drawn} {t : Nat} {os : OsState} {nm q : Str} {C N e u t0 : Addr} {bs bm : List Value} {sn : List Str} {sub : List Value} {ab : Bool} {col : Option Bool} {dd : Option Addr} {k0 k1 k2 k3 k5 : Option Value} {rest : List Value} {Q : Value → Shared → Prop}
    (hC : h.get? C = some (excClassObj nm q C N bs bm true sn sub ab col dd k0 k1 k2 k3 k5 "ValueError.__new__")) (he : h.get? e = some (PySem.W.excRec (.ref C) t0 none .none .none (.bool false))) (hu : h.get? u = some (PySem.W.kxs_mw "ValueError.__init__" e)) (hl : rest.length ≤ sizeLine)
    (hq : ∀ h' t1, (∀ b o, b ≠ e → h.get? b = some o → h'.get? b = some o) → h'.get? e = some (PySem.W.excRec (.ref C) t1 none .none .none (.bool false)) → Q .none ⟨h', g, d, t, os⟩) :
    wpAny (model prog w) A (call (.ref u) rest) Q E ⟨h, g, d, t, os⟩ := by
  have c1 : (Value.type "method-wrapper" == Value.type "method" || Value.type "method-wrapper" == Value.type "builtin_function_or_method" || Value.type "method-wrapper" == Value.type "method-wrapper") = true := by decide
  refine wpAny_call (codeAny_of_tree ?_)
  show wpAny (model prog w) A.in1 (callAny (.ref u) ⟨rest, []⟩) _ _ ⟨h, g, d, t, os⟩
  simp only [callAny]
  refine wpAny_bind (wpAny_load hu ?_)
  simp only [PySem.W.kxs_mw, c1, if_true]
  refine PySem.W.KFB.if_so (by decide) (wpAny_bind (PySem.W.check_bound_init PySem.F.excBase_ValueError.toExcCallFacts hC he rfl (wpAny_bind (wpAny_pure (wpAny_pure ⟨PySem.plainId_quiet PySem.F.excBase_ValueError.init.plain _, codeAny_builtin PySem.F.excBase_ValueError.initEntry ?_⟩)))))
  exact PySem.W.exc_init_tree he hl fun h' e1 e2 _ => hq h' _ e1 e2
section
variable {P : Program} {w : World} {K : PySem.W.Frag} {mg : Str → Option Value} {base : Heap} {CX : CXT} {k : Nat} {C f cda cc : Addr} {name qual self fld : Str} {params : Arguments} {scope : Scope} {dV kV doc pm ct oc ccl cl : Value} {an od cdd cld : Option Addr} {osl ccs csl : Array (Option Value)}
  {vs : Array Value} {file : Str} {tf : Tok} {ar : Arg} {cdC : ClassData} {p0 p1 p2 p3 p4 p5 p6 p7 p8 p9 : Pos}
theorem ini_ok (lk : K.lookup f = some ⟨oc, od, .func (PySem.W.ksFn name qual params [.Expr (.Call (.Attribute (.Call (.Name "super" p0) [] [] p1) "__init__" p2) [.Name fld p3] [] p4) p5, .Assign [.Attribute (.Name self p6) fld p7] (.Name fld p8) p9] scope dV kV doc pm an (.ref cda) ct cc), osl⟩)
    (hcd : PySem.W.codeIn K (.ref cda) qual = true) (par : (params.posonlyargs ++ params.args).head? = some ar) (har : ar.arg = self) (lc : K.lookup cda = some ⟨ccl, cdd, .fields vs, ccs⟩) (hvs : vs[2]? = some (.str file tf)) (hfile : ((P.main.file : Str) == file) = true)
    (lcell : K.lookup cc = some ⟨cl, cld, .cell (some (.ref C)), csl⟩) (T : OexC K C) (hC : PySem.W.clsIn K C = some cdC) (hsup : PySem.W.ks_superIn K C C "__init__" = some (some (.builtin "ValueError.__init__"))) (hsub : PySem.W.subIn K (.ref C) (.type "ValueError") = some true)
    (hst : PySem.W.nsIn K cStatics "thirdparty.any" = some none) (hCC : PySem.W.mroIn K C (.ref C) = some true) (hms : mg "super" = none) (htop : (P.main.scope.names.lookup ("super" : Str)).isSome = false) (hno : PySem.W.findIn K (.ref C) fld = some none)
    (ks : scope.names.lookup ("super" : Str) = some .globalImplicit) (kc : scope.names.lookup ("__class__" : Str) = some .free) (ka : scope.names.lookup self = some .local) (kf : scope.names.lookup fld = some .local) (kk : scope.kind = .function)
    (hcell : ∀ x ∈ scope.names, x.2 ≠ .cell) (hfree : ∀ x, scope.names.lookup x = some .free → x = "__class__") (hne : self ≠ fld) (hco : scope.isCoroutine = false) (hgen : scope.isGenerator = false) (hdb : (fld == ("__debug__" : Str)) = false) (hdb2 : (self == ("__debug__" : Str)) = false)
    (he : ∀ L, ∃ pl : Sem Bool, eval (.Call (.Attribute (.Call (.Name "super" p0) [] [] p1) "__init__" p2) [.Name fld p3] [] p4) (PySem.W.ksEnv qual scope L f (.ref cda) cc) = (do
      let ov ← attributeBase (.Call (.Name "super" p0) [] [] p1) "__init__" (PySem.W.ksEnv qual scope L f (.ref cda) cc) (eval (.Call (.Name "super" p0) [] [] p1) (PySem.W.ksEnv qual scope L f (.ref cda) cc))
      standAt p2.atName
      let (g, first) ← holding [ov] (getMethod ov "__init__" pl)
      callWith p4 g first (backTo p4 (starEach [.Name fld p3] (PySem.W.ksEnv qual scope L f (.ref cda) cc))) []))
    (hs1 : ∀ L, swapsWith (.Call (.Attribute (.Call (.Name "super" p0) [] [] p1) "__init__" p2) [.Name fld p3] [] p4) none p5.line (PySem.W.ksEnv qual scope L f (.ref cda) cc) = pure false)
    (hs2 : ∀ L, swapsWith (.Name fld p8) (some (.Attribute (.Name self p6) fld p7)) p9.line (PySem.W.ksEnv qual scope L f (.ref cda) cc) = pure false) :
    FnOk P w K mg base CX (k + 1) f (PySem.W.ksFn name qual params [.Expr (.Call (.Attribute (.Call (.Name "super" p0) [] [] p1) "__init__" p2) [.Name fld p3] [] p4) p5, .Assign [.Attribute (.Name self p6) fld p7] (.Name fld p8) p9] scope dV kV doc pm an (.ref cda) ct cc) [self, fld] (spIni C fld) := by
  refine ⟨fun ys H Q E h => ?_, fun A outer s H args us ys Q E hr e0 hb r hsp => ?_⟩
  · obtain ⟨a, y, rfl, -⟩ := h; rfl
  obtain ⟨a, y, rfl, ea, q⟩ := hsp
  have at_ : ∀ b o, base.get? b = some o → s.heap.get? b = some o := fun b o e => (e0.bs b o e).1
  have KI : K.In s.heap := e0.mod.kin.keeps at_
  match us, r with
  | [ua, uy], r =>
  have ra : ua = .ref a := by cases r with | cons x _ => exact x
  have ry : RelV y uy := by
    cases r with
    | cons _ z => cases z with | cons x _ => exact x
  subst ra
  refine PySem.ks_codeAny_call_defAt hr.depth (KI _ _ lk) rfl (e0.mod.nolimit.keeps at_) (PySem.W.codeRec_of KI hcd) rfl hb hcell (fun x hx => ?_) (fun h0 hns hk => ?_) hco hgen kk
  · have hx' : x = (self, .ref a) ∨ x = (fld, uy) := by simpa using hx
    rcases hx' with e | e
    · rw [e]; exact ka
    · rw [e]; exact kf
  have h0at : ∀ b o, base.get? b = some o → h0.get? b = some o := fun b o e => hk b o (at_ b o e)
  have K0 : K.In h0 := e0.mod.kin.keeps h0at
  have ccn : H cc = none := (e0.bs cc _ (e0.mod.kin _ _ lcell)).2
  have one : ∀ x c, (PySem.W.ksEnv qual scope s.heap.objs.size f (.ref cda) cc).cells.lookup x = some c → x = "__class__" ∧ c = cc := fun x c e => by
    have e' : ([("__class__", cc)] : List (Str × Addr)).lookup x = some c := e
    by_cases hx : x = "__class__"
    · subst hx
      refine ⟨rfl, ?_⟩
      have : ([("__class__", cc)] : List (Str × Addr)).lookup ("__class__" : Str) = some cc := rfl
      rw [this] at e'
      exact (Option.some.inj e').symm
    · have hb : (x == ("__class__" : Str)) = false := by simpa using hx
      simp [List.lookup, hb] at e'
  have I : Inv { prog := P, w := w, K := K, mg := mg, base := base, A := A.deeper (PySem.W.ksEnv qual scope s.heap.objs.size f (.ref cda) cc), N := [self, fld], s_0 := s, H_0 := H, env := (PySem.W.ksEnv qual scope s.heap.objs.size f (.ref cda) cc), outer := outer, stack := (PySem.W.ksEnv qual scope s.heap.objs.size f (.ref cda) cc) :: outer, ex := [], fn := fun _ => false, calm := true, pn := [], xe := fun _ _ => False } [] [some (.ref a), some y] H { s with heap := h0, toks := s.toks + 2 } := by
    refine ⟨⟨e0.mod, kk, rfl, rfl, Nat.le_refl _, fun x z c h1 h2 => (one x c h1).1.trans (one z c h2).1.symm, fun x hx => ?_, fun x c hx => (by cases hx), fun _ => hr.hd, Around.frames_deeper e0.frames, .inr ⟨rfl, rfl⟩, fun b z => (by cases z), e0.bs, e0.bsz, fun b _ _ z => (by cases z), fun b z => (by cases z), e0.funs, e0.frf⟩,
      rfl, e0.bare, Un.kept hk, ⟨fun x => ([(self, Value.ref a), (fld, uy)] : List (Str × Value)).reverse.lookup x, hns, fun i x v hN hs hv => ?_⟩, fun x c e => ?_, e0.hok.fresh (Nat.le_refl _), fun x c e => ?_, fun p hp => (by cases hp), e0.hok.kept hk, rfl⟩
    · rcases hx with hx | hx
      · exact absurd rfl (hcell _ (PySem.mem_of_lookup hx))
      · have e := hfree x hx
        subst e
        exact ⟨cc, rfl⟩
    · match i, hN, hs with
      | 0, hN, hs =>
        cases hN
        cases hs
        refine ⟨.ref a, rfl, .inl ⟨ka, ?_⟩⟩
        have hb : (self == fld) = false := by simpa using hne
        simp [List.lookup, hb]
      | 1, hN, hs =>
        cases hN
        cases hs
        exact ⟨uy, ry, .inl ⟨kf, by simp [List.lookup]⟩⟩
    · obtain ⟨e1, e2⟩ := one x c e
      subst e2
      exact ⟨_, _, K0 _ _ lcell, rfl⟩
    · obtain ⟨e1, e2⟩ := one x c e
      rw [e2]; exact ccn
  show PySem.wpAt (model P w) (A.deeper (PySem.W.ksEnv qual scope s.heap.objs.size f (.ref cda) cc)) (.func _ (PySem.W.ksEnv qual scope s.heap.objs.size f (.ref cda) cc)) (execs _ (PySem.W.ksEnv qual scope s.heap.objs.size f (.ref cda) cc)) _ _ _
  obtain ⟨mb, hmb, hbb⟩ := e0.mod.blt
  obtain ⟨pl, he⟩ := he s.heap.objs.size
  refine PySem.ks_wpAt_execs_cons (PySem.ks_wpAt_Expr_any (PySem.ks_wpAt_MethodCall (PySem.ks_wpAt_super_base (env := (PySem.W.ksEnv qual scope s.heap.objs.size f (.ref cda) cc)) ks kc (by decide) rfl (K0 _ _ lk) rfl par rfl (K0 _ _ lc) rfl hvs hfile htop ?_) he) I.quiet (hs1 _))
  obtain ⟨t1, ho⟩ := exo_at I.hok ea
  refine PySem.W.ks_loadName_global kk ks (PySem.Calls.loadGlobal_builtin (env := (PySem.W.ksEnv qual scope s.heap.objs.size f (.ref cda) cc)) (e0.mod.glob.keeps h0at) hms (hmb.keeps h0at) ((hbb _ (by decide +kernel)).trans (by rfl)) ⟨rfl, ?_⟩)
  refine wpAny_loadName_free kk kc rfl ⟨_, K0 _ _ lcell, rfl⟩ ?_
  rw [har]
  refine wpAny_loadName_local kk ka hns (v := .ref a) (by
    have hb : (self == fld) = false := by simpa using hne
    simp [List.lookup, hb]) ?_
  obtain ⟨oD, hD1, hD2⟩ : ∃ oD, h0.get? C = some oD ∧ oD.data = .cls cdC := by
    unfold PySem.W.clsIn at hC
    split at hC
    · rename_i c d cd' sl ho
      cases hC
      exact ⟨_, K0 _ _ ho, rfl⟩
    · cases hC
  refine PySem.ks_wpAny_isType_cls hD1 hD2 ⟨rfl, ?_⟩
  refine PySem.ks_wpAny_call_super hD1 hD2 ho rfl (fun c e => by cases e) (PySem.W.looks_mroIn K0 hCC) (fun h1 so1 k1 => ?_)
  have K1 : K.In h1 := K0.keeps k1
  have ho1 := k1 _ _ ho
  have J1 : PySem.W.InstAt h1 a { cls := .ref C, dict := none, data := .fields #[.ref t1, .none, .none, .none, .bool false, .none] } C none := ⟨ho1, rfl, rfl, trivial⟩
  have hsup' : PySem.W.alongIn K "__init__" ((cdC.mro.dropWhile (· != .ref C)).drop 1) = some (some (.builtin "ValueError.__init__")) := by
    have z := hsup
    unfold PySem.W.ks_superIn at z
    rw [hC] at z
    exact z
  refine PySem.W.kxs_getMethod PySem.W.kxs_ValueError so1 (PySem.W.looks_opaque K1 hst) (l₀ := cdC.mro) (fun A Q E s k q => wpAny_bind ((PySem.W.looks_clsIn K1 hC) A _ E s k (wpAny_pure q))) rfl K1 hsup' (J1.type.andThen (PySem.W.looks_subIn K1 hsub)) (PySem.W.ks_ne K1 J1 hC) (by decide) ?_
  -- the argument
  have hu : (h1.push (PySem.W.kxs_mw "ValueError.__init__" a)).get? h1.objs.size = some (PySem.W.kxs_mw "ValueError.__init__" a) := Heap.get?_push_at rfl rfl
  have k2 : ∀ b o, h0.get? b = some o → (h1.push (PySem.W.kxs_mw "ValueError.__init__" a)).get? b = some o := fun b o z => Heap.get?_push_of_some _ (k1 b o z)
  have I2 := I.kept (t' := s.toks + 2 + 1) k2
  have K2 : K.In (h1.push (PySem.W.kxs_mw "ValueError.__init__" a)) := K0.keeps k2
  refine PySem.W.kxs_callWith (i := "ValueError.__init__") (x := a) rfl (PySem.Calls.evalArgs_plain (Calls.spliced_cons (wpAny_Name (wpAny_loadName_local kk kf (hns.keeps k2) (v := uy) (by simp [List.lookup]) (Calls.spliced_nil ⟨hu, ?_⟩)) hdb)))
  obtain ⟨nm, q', N', bs, bm, sn, sub, ab, col, dd, j0, j1, j2, j3, j5, hCo, hbm⟩ := T.cls
  refine mw_call (K2 _ _ hCo) (k2 _ _ ho) hu (by show 1 ≤ sizeLine; rw [sizeLine_eq]; omega) fun h3 t3 k3 e3 => ?_
  have I3 := I2.write (t' := s.toks + 2 + 1) (x := a) (e := a) (o := exo a C none) (by rw [ea]; exact True.intro) (.inl rfl) k3 ⟨_, e3⟩ (exo_ok e3)
  have eu : upd H a (exo a C none) = H := by
    funext b
    by_cases hb : b = a
    · rw [hb, upd_same, ea]
    · rw [upd_ne hb]
  rw [eu] at I3
  have aL : s.heap.objs.size ≠ a := fun z => by
    have n := e0.hok.fresh (Nat.le_refl s.heap.objs.size)
    rw [z, ea] at n
    cases n
  have ns3 : h3.Ns s.heap.objs.size fun x => ([(self, Value.ref a), (fld, uy)] : List (Str × Value)).reverse.lookup x := by
    obtain ⟨oL, es, ep, e1, e2⟩ := hns.keeps k2
    exact ⟨oL, es, ep, k3 _ _ aL e1, e2⟩
  show PySem.wpAt (model P w) (A.deeper (PySem.W.ksEnv qual scope s.heap.objs.size f (.ref cda) cc)) (.func _ (PySem.W.ksEnv qual scope s.heap.objs.size f (.ref cda) cc)) (execs [.Assign [.Attribute (.Name self p6) fld p7] (.Name fld p8) p9] (PySem.W.ksEnv qual scope s.heap.objs.size f (.ref cda) cc)) _ _ _
  refine PySem.ks_wpAt_execs_cons (PySem.ks_wpAt_Assign_Attr (wpAt_of_wpAny (wpAny_Name (wpAny_loadName_local kk kf ns3 (v := uy) (by simp [List.lookup]) (wpAny_Name (wpAny_loadName_local kk ka ns3 (v := .ref a) (by
    have hb : (self == fld) = false := by simpa using hne
    simp [List.lookup, hb]) ?_) hdb2)) hdb)) (hs2 _))
  refine ost_new (C := C) T I3 ea hno ry fun dx s' n1 n2 J => ?_
  refine wpAt_of_wpAny ?_
  show wpAny _ _ (pure Flow.next) _ _ _
  exact wpAny_pure ⟨.non, _, J.os, J.bare, J.base, J.hok, rfl, q dx n1 n2⟩
end
/-! ### a caught exception that is kept behind its suite -/
theorem exk_ok {P : Program} {w : World} {H : Hp} {h : Heap} {a : Addr} {cls : Value} {d : Option Addr} {oe : Obj} {vs : Array Value} (e : h.get? a = some oe) (z : Zc cls d oe) (f : oe.data = .fields vs) : ObjOk P w H h a (exk a cls d) :=
  ⟨⟨oe, vs, e, z, f⟩, ⟨_, e⟩, fun h1 h2 x k => by
    obtain ⟨o, v, e1, e2, e3⟩ := x
    exact ⟨o, v, k _ e1, e2, e3⟩⟩
theorem exk_at {P : Program} {w : World} {H : Hp} {h : Heap} {a : Addr} {cls : Value} {d : Option Addr} (hok : HOk P w H h) (e : H a = some (exk a cls d)) : ∃ oe vs, h.get? a = some oe ∧ Zc cls d oe ∧ oe.data = .fields vs := by
  have x : ObjOk P w H h a (.ext fun h => ∃ oe vs, h.get? a = some oe ∧ Zc cls d oe ∧ oe.data = .fields vs) := hok a _ e
  exact x.1
theorem keepExc {X : Cx} {pins : List (Addr × Obj)} {σ : L2.St} {H : Hp} {s : Shared} {a : Addr} {oe : Obj} {vs : Array Value} {cls : Value} {d : Option Addr} (I : Inv X ((a, oe) :: pins) σ H s) (hz : Zc cls d oe) (hd : oe.data = .fields vs) (n0 : X.s_0.heap.get? a = none) (np : ∀ p ∈ X.pn ++ pins, p.1 ≠ a) :
    Inv X pins σ (upd H a (exk a cls d)) s := by
  obtain ⟨g1, g2, g3, g4, g5⟩ := I.pin (a, oe) (List.mem_append_right _ List.mem_cons_self)
  have up : ∀ {b : Addr} {o : HO}, H b = some o → upd H a (exk a cls d) b = some o := fun {b o} e => by rw [upd_ne (ne_of_none e g2)]; exact e
  refine ⟨I.ok, I.os, I.bare, ⟨I.base.keep, I.base.slot, fun b o e n x => ?_, I.base.there, fun b xs e => up (I.base.tups b xs e), fun b o v e => up (I.base.frzs b o v e), fun b ps e => ?_⟩, I.loc, I.cell, ?_, fun x c e => ?_, fun p hp => ?_, HOk.laidN I.hok (fun _ _ e => e) g2 (exk_ok g1 hz hd), I.len⟩
  · have ne : b ≠ a := fun z => by rw [z, n0] at e; cases e
    rw [upd_ne ne]
    exact I.base.free b o e n x
  · obtain ⟨more, e1⟩ := I.base.tbls b ps e
    exact ⟨more, up e1⟩
  · rw [upd_ne (Ne.symm g3)]; exact I.free
  · have ne : c ≠ a := fun z => by
      obtain ⟨v, o, e1, e2⟩ := I.cell x c e
      rw [z, g1] at e1
      cases e1
      exact g5 v e2
    rw [upd_ne ne]; exact I.freeC x c e
  · obtain ⟨f1, f2, f3, f4, f5⟩ := I.pin p (by
      rcases List.mem_append.mp hp with q | q
      · exact List.mem_append_left _ q
      · exact List.mem_append_right _ (List.mem_cons_of_mem _ q))
    exact ⟨f1, by rw [upd_ne (np p hp)]; exact f2, f3, f4, f5⟩
/-- the wish of `except x as n`, the object kept -/
def wKeep (K : PySem.W.Frag) (c : Value) (i : Nat) (ts : Addr → Value → Option Addr → TS) (Wout : WX) (D : Ends) : WX := fun cls d σ H =>
  ∃ b, PySem.W.exmOne K cls c = some b ∧ (b = true → ∀ a, H a = none → ts a cls d { nx := fun σ' H' => D.nx (σ'.set i none) (upd H' a (exk a cls d)), rt := fun v H' => D.rt v (upd H' a (exk a cls d)), bk := fun σ' H' => D.bk (σ'.set i none) (upd H' a (exk a cls d)), ct := fun σ' H' => D.ct (σ'.set i none) (upd H' a (exk a cls d)) } (σ.set i (some (.ref a))) H) ∧
    (b = false → Wout cls d σ H)
section
variable {X : Cx} {x n : Str} {c : Value} {i : Nat} {body suite : List Stmt} {b₀ : Stmt} {np pos pos' : Pos} {tb : WX → TS} {ts : Addr → Value → Option Addr → TS} {Wout : WX}
theorem ps_try_keep (hex : X.ex = []) (hs : X.stack = X.env :: X.outer) (hf : X.env.frame = some X.env.locals) (hN : X.N.Nodup) (hi : X.N[i]? = some n) (hln : X.env.kindOf n = some .local) (hc : Names X x c) (tk : Takes X Wout)
    (hb : ∀ (W : WX) (pn : List (Addr × Obj)) (xe : Value → Shared → Prop), Takes (X.tr pn xe) W → PassesOwn (model X.prog X.w) X.A X.env xe → PSs (X.tr pn xe) body (tb W))
    (hsu : ∀ (a : Addr) (oe : Obj) (cls : Value) (d : Option Addr) (pn : List (Addr × Obj)), Zc cls d oe → (∃ vs, oe.data = .fields vs) → PSs (X.suite a ((a, oe) :: pn)) (b₀ :: suite) (ts a cls d)) :
    PS X (.Try body [.ExceptHandler (some (.Name x np)) (some n) (b₀ :: suite) pos'] [] [] pos) (fun D σ H => tb (wKeep X.K c i ts Wout D) D σ H) := by
  refine ⟨fun pins s σ H D I want => ?_⟩
  have okX := I.ok
  have fr : X.A.frames = some (X.env :: X.outer) := okX.frames.trans (by rw [hs])
  refine wpAny_Try_except (wpAny_mono ((hb (wKeep X.K c i ts Wout D) (X.pn ++ pins) (fun e s₁ => wpAny (model X.prog X.w) X.A (noteFrame e X.env) (fun _ s₂ => wpAny (model X.prog X.w) X.A (setFlight e none) (fun _ s₃ =>
    wpAny (model X.prog X.w) X.A (handleBy e X.env [.ExceptHandler (some (.Name x np)) (some n) (b₀ :: suite) pos']) (SP X pins D) X.xe s₃) X.xe s₂) X.xe s₁) (fun u s' xx => ?_) PassesOwn.looking).run [] s σ H D (I.toTry _) want) (fun fl s1 z => ?_) (fun _ _ z => z))
  · obtain ⟨a, B, sI, pins', σ', H', cls, d, rfl, J', nb, up, sky, na, os, ag, b, hb1, hyes, hno⟩ := xx
    have J : Inv X pins σ' H' sI := J'.ofTry okX
    have Ba : B.get? a = none := by
      rcases sky with q | q | q
      · exact q.2.1
      · exact q.2.1
      · exact q.2.1
    refine Sky.land Zc.steady fr hf (by rw [← hs]; exact sky) fun h3 f3 u3 => ?_
    have J3 : Inv X pins σ' H' { s' with heap := h3 } := J.landed nb f3.1 (up.trans u3) os ag
    obtain ⟨o3, v3, g3, z3, d3⟩ := f3.there
    have out : a ∉ frs (X.env :: X.outer) := fun hm => by
      obtain ⟨_, o', e', hnf⟩ := f3.2.2.1.mem hm
      rw [g3] at e'
      cases e'
      exact hnf _ d3
    have nL : a ≠ X.env.locals := fun z => out (List.mem_filterMap.mpr ⟨X.env, List.mem_cons_self, by rw [hf, z]⟩)
    have nF : a ∉ X.fs := fun hm => by
      obtain ⟨e, he, q⟩ := List.mem_filterMap.mp hm
      exact out (List.mem_filterMap.mpr ⟨e, List.mem_cons_of_mem _ he, q⟩)
    have out' : a ∉ frs X.stack := by rw [hs]; exact out
    have n0 : X.s_0.heap.get? a = none := by
      cases q : X.s_0.heap.get? a with
      | none => rfl
      | some o =>
        obtain ⟨o', e'⟩ := J.base.there a o q (by rw [hex]; exact fun z => nomatch z)
        rw [nb a o' e' out'] at Ba
        cases Ba
    have npin : ∀ p ∈ X.pn ++ pins, p.1 ≠ a := fun p hp z => by
      obtain ⟨f1, f2, f3', f4, f5⟩ := J.pin p hp
      rw [z] at f1
      rw [nb a _ f1 out'] at Ba
      cases Ba
    have S3 := J3.suite g3 d3 na nL nF
    refine wpAny_handleBy_cons (codeAny_handlers_test ?_) (by intro q; cases q)
    have LM := PySem.W.exm_one (M := model X.prog X.w) J3.kIn (show PySem.W.Looks (model X.prog X.w) h3 (typeOf (.ref a)) cls from fun A Q E s k q => wpAny_typeOf_ref (k _ _ g3) (by rw [z3.1]; exact q)) hb1
    have nameIs : ∀ {Q : Value → Shared → Prop} {E : Value → Shared → Prop}, Q c { s' with heap := h3 } → wpAny (model X.prog X.w) (X.A.mark (some (.ref a))) (eval (.Name x np) X.env) Q E { s' with heap := h3 } := fun {Q E} q => by
      obtain ⟨hg, hdbg, hm | ⟨hm, hv, hnn⟩⟩ := hc
      · exact ld_glob (X := X.suite a ((a, o3) :: (X.pn ++ pins))) S3 hg hm q hdbg
      · exact ld_blt (X := X.suite a ((a, o3) :: (X.pn ++ pins))) S3 hg hm hv q hnn hdbg
    refine nameIs (LM.here ?_)
    cases b with
    | true =>
      refine codeAny_handlers_suite_as (HandSPX.lands_againZ f3 fun h4 f4 u4 => ?_)
      have J4 : Inv X pins σ' H' { s' with heap := h4 } := J.landed nb f4.1 ((up.trans u3).trans u4) os ag
      obtain ⟨o4, v4, g4, z4, d4⟩ := f4.there
      refine store_ok (X := X.suite a ((a, o4) :: (X.pn ++ pins))) (v := .ref a) (J4.suite g4 d4 na nL nF) hN hi (.inl hln) rfl (fun s5 S5 => ?_) (.inr hln)
      refine wpAny_mono ((hsu a o4 cls d (X.pn ++ pins) z4 ⟨_, d4⟩).run [] s5 _ H' _ S5 (hyes rfl a na)) (fun fl s6 z => ?_) (fun _ _ z => z.elim)
      have off : ∀ {σ6 : L2.St} {H6 : Hp} {Q : Shared → Prop}, Inv (X.suite a ((a, o4) :: (X.pn ++ pins))) [] σ6 H6 s6 → (∀ s7, Inv X pins (σ6.set i none) (upd H6 a (exk a cls d)) s7 → Q s7) →
          wpAny (model X.prog X.w) X.A (do bindName X.env n .none; unbindBehindTheSuite X.env n pos') (fun _ s7 => Q s7) X.xe s6 := fun {σ6 H6 Q} S6 hq => by
        have K6 : Inv X ((a, o4) :: pins) σ6 H6 s6 := ⟨okX, S6.os, S6.bare, S6.base, S6.loc, S6.cell, S6.free, S6.freeC, fun p hp => S6.pin p (List.mem_append_left _ (by
          rcases List.mem_append.mp hp with q | q
          · exact List.mem_cons_of_mem _ (List.mem_append_left _ q)
          · rcases List.mem_cons.mp q with q | q
            · rw [q]; exact List.mem_cons_self
            · exact List.mem_cons_of_mem _ (List.mem_append_right _ q))), S6.hok, S6.len⟩
        exact gone_ok K6 hN hi hln fun s7 J7 => hq s7 (keepExc J7 z4 d4 n0 npin)
      cases fl with
      | next => obtain ⟨σ6, H6, S6, q6⟩ := z; exact off S6 fun s7 J7 => ⟨_, _, J7, q6⟩
      | brk => obtain ⟨σ6, H6, S6, q6⟩ := z; exact off S6 fun s7 J7 => ⟨_, _, J7, q6⟩
      | cont => obtain ⟨σ6, H6, S6, q6⟩ := z; exact off S6 fun s7 J7 => ⟨_, _, J7, q6⟩
      | ret u => obtain ⟨v6, σ6, H6, S6, r6, q6⟩ := z; exact off S6 fun s7 J7 => ⟨_, _, _, J7, r6, q6⟩
    | false =>
      show wpAny _ X.A (handleBy (.ref a) X.env []) _ _ _
      refine wpAny_handleBy_nil ?_
      obtain ⟨k1, k2, k3, oe, vs, T, oT, ts', he, hz, hd, h1, hr⟩ := id f3
      unfold PySem.passOn
      refine wpAny_bind (wpAny_field he hd h1 ?_)
      rw [if_neg (show ¬ ((Value.ref T == Value.none) = true) from by simp)]
      have on : wpAny (model X.prog X.w) X.A (setFlight (.ref a) X.env.frame) (fun _ s4 => wpAny (model X.prog X.w) X.A (throw (.ref a) : Sem Flow) (SP X pins D) X.xe s4) X.xe { s' with heap := h3 } := by
        rw [hf]
        exact HandSPX.setFlight_upZ f3 fun h4 hh u4 => wpAny_throw (tk _ _ ⟨a, B, sI, pins, σ', H', cls, d, rfl, J, nb, (up.trans u3).trans u4, .inr (.inr (by rw [hs]; exact hh)), na, os, ag, hno rfl⟩)
      first
        | exact wpAny_bind (wpAny_pure (wpAny_bind on))
        | exact wpAny_bind on
  · cases fl with
    | next => obtain ⟨σ', H', J', q⟩ := z; exact wpAny_execs_nil ⟨σ', H', J'.ofTry okX, q⟩
    | brk => obtain ⟨σ', H', J', q⟩ := z; exact ⟨σ', H', J'.ofTry okX, q⟩
    | cont => obtain ⟨σ', H', J', q⟩ := z; exact ⟨σ', H', J'.ofTry okX, q⟩
    | ret u => obtain ⟨v, σ', H', J', r, q⟩ := z; exact ⟨v, σ', H', J'.ofTry okX, r, q⟩
end
/-! ### a kept exception: its class, its field -/
theorem KxAt.inst {X : Cx} {pins : List (Addr × Obj)} {σ : L2.St} {H : Hp} {s : Shared} {a C d : Addr} {fs : List (Str × V)} (I : Inv X pins σ H s) (k : KxAt H a C d fs) : ∃ ox od mA, PySem.W.InstAt s.heap a ox C (some od) ∧ s.heap.Ns1 d mA ∧ s.heap.get? d = some od ∧ ∀ f, RelO (fs.lookup f) (mA f) := by
  obtain ⟨k1, k2⟩ := k
  obtain ⟨oe, vs, e1, e2, e3⟩ := exk_at I.hok k1
  have hx : ObjOk X.prog X.w H s.heap d (.xd fs) := I.hok d _ k2
  obtain ⟨mA, hns, hr⟩ := hx
  obtain ⟨od, ho, hl⟩ := lookIn_ns hns
  exact ⟨oe, od, mA, ⟨e1, e2.1, by unfold PySem.W.notCls; rw [e3] <;> rfl, by rw [e2.2]; exact ho⟩, hns, ho, hr⟩
section
variable {X : Cx}
theorem call_isK : CallR X (.builtin "isinstance") (fun xs H Q => ∃ (a C d : Addr) (fs : List (Str × V)) (c : V) (cv : Value) (b : Bool), xs = [.ref a, c] ∧ KxAt H a C d fs ∧ ExcC X.K C ∧ (∀ u, RelV c u → u = cv) ∧ PySem.W.kitOne X.K (.ref C) cv = some b ∧ Q (.bl b) H) := by
  intro pins s σ H xs us Q I r h
  obtain ⟨a, C, d, fs, c, cv, b, rfl, k, T, hcv, e, q⟩ := h
  cases r with
  | cons rx rr =>
    cases rr with
    | cons rt rr =>
      cases rr
      cases rx
      have ec := hcv _ rt
      subst ec
      obtain ⟨ox, od, mA, J, -⟩ := k.inst I
      have hcl : (PySem.W.clsIn X.K C).isSome = true := by
        obtain ⟨cd, hc, _⟩ := PySem.W.any_some T.hd
        rw [hc]; rfl
      exact PySem.W.kia_one (PySem.W.kitx_exc hcl T.hg T.hk T.hs T.ha T.hn T.ht T.hm) I.kIn J e (fun z => nomatch z) fun tk => ⟨.bl b, H, I.kept (t' := tk) fun _ _ z => z, rfl, q⟩
/-- e.n -/
def tKf (K : PySem.W.Frag) (n : Str) (te : TE) : TE := fun σ H Q => te σ H fun x H1 => ∃ (a C d : Addr) (fs : List (Str × V)) (v : V), x = .ref a ∧ KxAt H1 a C d fs ∧ XfC K C ∧ PySem.W.findIn K (.ref C) n = some none ∧ fs.lookup n = some v ∧ Q v H1
theorem pe_kf {e : Expr} {te : TE} {pos : Pos} {n : Str} (he : PE X e te) (hb : attributeBase e n X.env (eval e X.env) = eval e X.env := by rfl) : PE X (.Attribute e n pos) (tKf X.K n te) := by
  refine ⟨fun pins s σ H Q I h => ?_⟩
  refine attr_of hb (thn (he.run pins s σ H _ I h) fun u s1 z => ?_)
  obtain ⟨x, H1, I1, rx, a, C, d, fs, v, ex, k, T, hno, l, q⟩ := z
  subst ex
  have ru : u = Value.ref a := rx
  subst ru
  obtain ⟨ox, od, mA, J, hns, ho, hr⟩ := k.inst I1
  obtain ⟨w, hu, rw'⟩ := RelO.some_of (v := v) (o := mA n) (by rw [← l]; exact hr n)
  obtain ⟨od', ho', hl⟩ := lookIn_ns hns
  rw [ho] at ho'
  cases ho'
  exact HandSPX.exc_get I1.kIn J T.ga T.gg T.exC (PySem.W.findObj_own T.hdC hno rfl (by rw [hl, hu])) (handed_of rw') ⟨v, H1, I1.tok _, rw', q⟩
end
theorem upd_del {H : Hp} {a d : Addr} {y : V} {C : Addr} {fld : Str} (na : H a = none) (hd : H d = none) (hda : d ≠ a) :
    upd (del (upd (upd (upd H a (exo a C none)) d (exd d [(fld, y)])) a (exo a C (some d))) a) d (.xd [(fld, y)]) = upd H d (.xd [(fld, y)]) := by
  funext b
  by_cases hb : b = d
  · rw [hb, upd_same, upd_same]
  · rw [upd_ne hb, upd_ne hb]
    by_cases ha : b = a
    · rw [ha, del_same, na]
    · rw [del_ne ha, upd_ne ha, upd_ne hb, upd_ne ha]
/-! ### tests of the written part -/
def oexB (K : PySem.W.Frag) (C : Addr) : Bool := (match K.lookup C with
  | some ⟨.type "type", _, .cls cd, sl⟩ => (match cd.mro, sl.toList with
    | .ref C' :: bm, [_, _, _, _, some (.builtin n), _] => C' == C && (n == "ValueError.__new__" && (!cd.hasDel && (cd.hasDict && PySem.HandSPX.refsVE bm)))
    | _, _ => false)
  | _ => false) && (He.eqO (PySem.W.findIn K (.ref C) "__setattr__") (some (some (.builtin "object.__setattr__"))) && (decide (PySem.W.subIn K (.ref C) (.type "BaseException") = some true) && (decide (PySem.W.typeIn K (.ref C) = some (.type "type")) && PySem.W.keepIn K (.ref C))))
theorem oexB_ok {K : PySem.W.Frag} {C : Addr} (h : oexB K C = true) : OexC K C := by
  obtain ⟨h1, h⟩ := He.ba h
  obtain ⟨h2, h⟩ := He.ba h
  obtain ⟨h3, h⟩ := He.ba h
  obtain ⟨h4, h5⟩ := He.ba h
  refine ⟨?_, He.eqO_ok h2, of_decide_eq_true h3, of_decide_eq_true h4, h5⟩
  split at h1
  · rename_i dd cd sl ho
    split at h1
    · rename_i C' bm a0 a1 a2 a3 n a5 e1 e2
      obtain ⟨g1, h1⟩ := He.ba h1
      obtain ⟨g2, h1⟩ := He.ba h1
      obtain ⟨g3, h1⟩ := He.ba h1
      obtain ⟨g4, g5⟩ := He.ba h1
      have c1 : C' = C := beq_iff_eq.mp g1
      have c2 : n = "ValueError.__new__" := beq_iff_eq.mp g2
      subst c1 c2
      obtain ⟨nm, bs, mro, ns, qn, hd, sn, sb, ab, col, del⟩ := cd
      dsimp only at e1 g3 g4
      subst e1 g4
      have g3' : del = false := by simpa using g3
      subst g3'
      have esl : sl = #[a0, a1, a2, a3, some (.builtin "ValueError.__new__"), a5] := Array.toList_inj.mp e2
      subst esl
      exact ⟨nm, qn, ns, bs, bm, sn, sb, ab, col, dd, a0, a1, a2, a3, a5, ho, g5⟩
    · cases h1
  · cases h1
def excB (K : PySem.W.Frag) (D : Addr) : Bool := He.eqO (PySem.W.findIn K (.ref D) "__getattribute__") (some (some (.builtin "BaseException.__getattribute__"))) && (He.eqO (PySem.W.findIn K (.ref D) "__getattr__") (some none) && (decide (PySem.W.subIn K (.ref D) (.type "BaseException") = some true) && (PySem.W.hasDictIn K D &&
  (He.eqO (PySem.W.findIn K (.ref D) "__class__") (some (some (.builtin "object.__class__"))) && (He.eqO (PySem.W.specialIn K (.builtin "object.__class__") "__get__") (some (some (.builtin "getset_descriptor.__get__"))) && (decide (PySem.W.takesIn K (.builtin "object.__class__") = some true) && decide (PySem.W.mroIn K D (.type "object") = some true)))))))
theorem excB_ok {K : PySem.W.Frag} {D : Addr} (h : excB K D = true) : ExcC K D := by
  obtain ⟨h1, h⟩ := He.ba h
  obtain ⟨h2, h⟩ := He.ba h
  obtain ⟨h3, h⟩ := He.ba h
  obtain ⟨h4, h⟩ := He.ba h
  obtain ⟨h5, h⟩ := He.ba h
  obtain ⟨h6, h⟩ := He.ba h
  obtain ⟨h7, h8⟩ := He.ba h
  exact ⟨He.eqO_ok h1, He.eqO_ok h2, of_decide_eq_true h3, h4, He.eqO_ok h5, He.eqO_ok h6, of_decide_eq_true h7, of_decide_eq_true h8⟩
/-! ### a hook that also tells of own exceptions -/
/-- an own exception: its global name, its __init__'s parameters, name, qualified name, parameters, body, scope -/
structure ExW where
  x : Str
  self : Str
  fld : Str
  name : Str
  qual : Str
  params : Arguments
  body : List Stmt
  scope : Scope
abbrev XwT : Type := Option (Str × Str × Arguments × FuncBody × Scope × Addr × Addr)
def xwOf (K : PySem.W.Frag) (x : Str) : XwT := match K.lookup (He.ma K (He.ga K x) "__init__") with
  | some ⟨_, _, .func fd, _⟩ => some (fd.name, fd.qualname, fd.params, fd.body, fd.scope, fd.globals, fd.builtins)
  | _ => none
def ExW.val (e : ExW) : XwT := some (e.name, e.qual, e.params, .stmts e.body, e.scope, mainGlobals, builtinsNs)
def fileB (file : Str) : Value → Bool
  | .str y _ => decide (y = file)
  | _ => false
def ExW.ok (file : Str) (K : PySem.W.Frag) (e : ExW) : Bool := (match K.lookup (He.ma K (He.ga K e.x) "__init__") with
  | some ⟨_, _, .func fd, _⟩ => PySem.W.codeIn K fd.code e.qual && ((match fd.code with
      | .ref cda => (match K.lookup cda with
        | some ⟨_, _, .fields vs, _⟩ => (vs[2]?).any (fileB file)
        | _ => false)
      | _ => false) && (match fd.closure with
        | [(nm, cc)] => decide (nm = "__class__") && (match K.lookup cc with
          | some ⟨_, _, .cell (some (.ref C)), _⟩ => decide (C = He.ga K e.x)
          | _ => false)
        | _ => false) && (match fd.defaults with
          | .ref T => (match K.lookup T with
            | some ⟨_, _, .seq its _, _⟩ => decide (its.toList = [Value.none])
            | _ => false)
          | _ => false))
  | _ => false) && (oexB K (He.ga K e.x) && (excB K (He.ga K e.x) && (decide (PySem.W.ks_superIn K (He.ga K e.x) (He.ga K e.x) "__init__" = some (some (.builtin "ValueError.__init__"))) && (decide (PySem.W.subIn K (.ref (He.ga K e.x)) (.type "ValueError") = some true) && (decide (PySem.W.mroIn K (He.ga K e.x) (.ref (He.ga K e.x)) = some true) &&
    (He.eqO (PySem.W.findIn K (.ref (He.ga K e.x)) e.fld) (some none) && (He.eqO (PySem.W.findIn K (.ref (He.ga K e.x)) "__init__") (some (some (.ref (He.ma K (He.ga K e.x) "__init__")))) && (decide (PySem.W.typeIn K (.ref (He.ma K (He.ga K e.x) "__init__")) = some (.type "function")) && He.eqO (PySem.W.nsIn K mainGlobals e.x) (some (some (.ref (He.ga K e.x))))))))))))
/-- what a told own exception gives -/
structure ExF (P : Program) (K : PySem.W.Frag) (e : ExW) (C f : Addr) (fd : FuncData) : Prop where
  T : OexC K C
  E : ExcC K C
  iC : PySem.W.findIn K (.ref C) "__init__" = some (some (.ref f))
  tI : PySem.W.typeIn K (.ref f) = some (.type "function")
  no : PySem.W.findIn K (.ref C) e.fld = some none
  sup : PySem.W.ks_superIn K C C "__init__" = some (some (.builtin "ValueError.__init__"))
  sub : PySem.W.subIn K (.ref C) (.type "ValueError") = some true
  mro : PySem.W.mroIn K C (.ref C) = some true
  gl : PySem.W.nsIn K mainGlobals e.x = some (some (.ref C))
  fn : ∃ (oc : Value) (od : Option Addr) (dV kV doc pm ct : Value) (an : Option Addr) (osl : Array (Option Value)) (cda cc : Addr) (ccl cl : Value) (cdd cld : Option Addr) (ccs csl : Array (Option Value)) (vs : Array Value) (file : Str) (tf : Tok),
    fd = PySem.W.ksFn e.name e.qual e.params e.body e.scope dV kV doc pm an (.ref cda) ct cc ∧ K.lookup f = some ⟨oc, od, .func fd, osl⟩ ∧ PySem.W.codeIn K (.ref cda) e.qual = true ∧ K.lookup cda = some ⟨ccl, cdd, .fields vs, ccs⟩ ∧ vs[2]? = some (.str file tf) ∧ file = P.main.file ∧ K.lookup cc = some ⟨cl, cld, .cell (some (.ref C)), csl⟩
  df : ∃ (T : Addr) (oc : Value) (od : Option Addr) (its : Array Value) (n : Nat) (osl : Array (Option Value)), fd.defaults = .ref T ∧ K.lookup T = some ⟨oc, od, .seq its n, osl⟩ ∧ its.toList = [Value.none]
theorem ExW.tells {P : Program} {K : PySem.W.Frag} {e : ExW} (hv : xwOf K e.x = e.val) (ok : e.ok P.main.file K = true) : ∃ fd, ExF P K e (He.ga K e.x) (He.ma K (He.ga K e.x) "__init__") fd := by
  unfold ExW.ok at ok
  obtain ⟨h0, ok⟩ := He.ba ok
  obtain ⟨h1, ok⟩ := He.ba ok
  obtain ⟨h2, ok⟩ := He.ba ok
  obtain ⟨h3, ok⟩ := He.ba ok
  obtain ⟨h4, ok⟩ := He.ba ok
  obtain ⟨h5, ok⟩ := He.ba ok
  obtain ⟨h6, ok⟩ := He.ba ok
  obtain ⟨h7, ok⟩ := He.ba ok
  obtain ⟨h8, h9⟩ := He.ba ok
  unfold xwOf ExW.val at hv
  split at h0
  · rename_i oc od fd osl ho
    rw [ho] at hv
    obtain ⟨c1, h0⟩ := He.ba h0
    obtain ⟨c2, c4⟩ := He.ba h0
    obtain ⟨c2, c3⟩ := He.ba c2
    split at c2
    · rename_i cda hcode
      split at c2
      · rename_i ccl cdd vs ccs hcda
        split at c3
        · rename_i nm cc hclo
          obtain ⟨d1, d2⟩ := He.ba c3
          split at d2
          · rename_i cl cld C csl hcc
            have dC := of_decide_eq_true d2
            have dn := of_decide_eq_true d1
            subst dC dn
            have any2 : ∃ v, vs[2]? = some v ∧ fileB P.main.file v = true := by
              cases q : vs[2]? with
              | none => rw [q] at c2; cases c2
              | some v => rw [q] at c2; exact ⟨v, rfl, c2⟩
            obtain ⟨fv, hvs, hfile⟩ := any2
            cases fv with
            | str y t =>
              have hy : y = P.main.file := of_decide_eq_true hfile
              refine ⟨fd, oexB_ok h1, excB_ok h2, He.eqO_ok h7, of_decide_eq_true h8, He.eqO_ok h6, of_decide_eq_true h3, of_decide_eq_true h4, of_decide_eq_true h5, He.eqO_ok h9, ?_, ?_⟩
              rotate_left
              · split at c4
                · rename_i T hT
                  split at c4
                  · rename_i its n _ hl
                    exact ⟨T, _, _, its, n, _, hT, hl, of_decide_eq_true c4⟩
                  · cases c4
                · cases c4
              have z := Option.some.inj hv
              rw [hcode] at c1
              obtain ⟨k1, z⟩ := Prod.mk.inj z
              obtain ⟨k2, z⟩ := Prod.mk.inj z
              obtain ⟨k3, z⟩ := Prod.mk.inj z
              obtain ⟨k4, z⟩ := Prod.mk.inj z
              obtain ⟨k5, z⟩ := Prod.mk.inj z
              obtain ⟨k6, k7⟩ := Prod.mk.inj z
              refine ⟨oc, od, fd.defaults, fd.kwdefaults, fd.doc, fd.pyModule, fd.closureTuple, fd.annotations, osl, cda, cc, ccl, cl, cdd, cld, ccs, csl, vs, y, t, ?_, ho, c1, hcda, hvs, hy, hcc⟩
              cases fd
              simp only at *
              subst k1 k2 k3 k4 k5 k6 k7 hcode hclo
              rfl
            | _ => cases hfile
          · cases d2
        · cases c3
      · cases c2
    · cases c2
  · cases h0
abbrev AlX : Type := He.AlD × Bool × List XwT
def obsX (fa : List He.Fa) (fn : List He.DefD) (file : Str) (xs : List ExW) (bs : List (PySem.W.Frag → Bool)) (K : PySem.W.Frag) : AlX := (He.obsD fa fn K, (xs.all fun e => e.ok file K) && bs.all fun b => b K, xs.map fun e => xwOf K e.x)
def valX (fn : List He.DefD) (xs : List ExW) : AlX := (He.valD fn, true, xs.map ExW.val)
def SaysX (fa : List He.Fa) (fn : List He.DefD) (file : Str) (xs : List ExW) (bs : List (PySem.W.Frag → Bool)) (K : PySem.W.Frag) : Prop := obsX fa fn file xs bs K = valX fn xs
def obsXG (n : Nat) (fa : List He.Fa) (fn : List He.DefD) (file : Str) (xs : List ExW) (bs : List (PySem.W.Frag → Bool)) (g : Addr → Option Obj) : AlX := obsX fa fn file xs bs (He.frG g (cStatics :: sysModules :: He.asD g n))
def hookX (n : Nat) (fa : List He.Fa) (fn : List He.DefD) (file : Str) (xs : List ExW) (bs : List (PySem.W.Frag → Bool)) : PySem.W.Hook where
  α := AlX
  obs := fun s => obsXG n fa fn file xs bs s.heap.get?
  val := fun _ => valX fn xs
  says := fun _ h => ∃ K : PySem.W.Frag, K.In h ∧ SaysX fa fn file xs bs K
  of := fun _ _ e => ⟨_, He.frG_in, e⟩
  keeps := fun _ _ _ ⟨K, hK, c⟩ k => ⟨K, PySem.W.Frag.In.keeps hK k, c⟩
theorem obsXG_eq {n : Nat} {fa : List He.Fa} {fn : List He.DefD} {file : Str} {xs : List ExW} {bs : List (PySem.W.Frag → Bool)} {g : Addr → Option Obj} {s : Shared} (h : ∀ a, g a = s.heap.get? a) : obsXG n fa fn file xs bs g = (hookX n fa fn file xs bs).obs s := by
  rw [show g = s.heap.get? from funext h]
  rfl
section
variable {fa : List He.Fa} {fn : List He.DefD} {file : Str} {xs : List ExW} {bs : List (PySem.W.Frag → Bool)} {K : PySem.W.Frag}
theorem SaysX.d (c : SaysX fa fn file xs bs K) : He.SaysD fa fn K := congrArg (fun z : AlX => z.1) c
theorem SaysX.bit (c : SaysX fa fn file xs bs K) (i : Nat) {b : PySem.W.Frag → Bool} (h : bs[i]? = some b := by rfl) : b K = true := by
  have c1 := (He.ba (show ((xs.all fun e => e.ok file K) && bs.all fun b => b K) = true from congrArg (fun z : AlX => z.2.1) c)).2
  exact List.all_eq_true.mp c1 b (List.mem_of_getElem? h)
theorem SaysX.exc {P : Program} (c : SaysX fa fn P.main.file xs bs K) (i : Nat) {e : ExW} (h : xs[i]? = some e := by rfl) : ∃ fd, ExF P K e (He.ga K e.x) (He.ma K (He.ga K e.x) "__init__") fd := by
  have c1 := (He.ba (show ((xs.all fun e => e.ok P.main.file K) && bs.all fun b => b K) = true from congrArg (fun z : AlX => z.2.1) c)).1
  have e1 : (xs.map fun e => xwOf K e.x) = xs.map ExW.val := congrArg (fun z : AlX => z.2.2) c
  have e2 : (xs.map fun e => xwOf K e.x)[i]? = (xs.map ExW.val)[i]? := by rw [e1]
  rw [List.getElem?_map, List.getElem?_map, h] at e2
  exact ExW.tells (Option.some.inj e2) (List.all_eq_true.mp c1 e (List.mem_of_getElem? h))
end
/-- the facts of the text of such an __init__ -/
structure ExT (P : Program) (e : ExW) (p0 p1 p2 p3 p4 p5 p6 p7 p8 p9 : Pos) (ar : Arg) : Prop where
  body : e.body = [.Expr (.Call (.Attribute (.Call (.Name "super" p0) [] [] p1) "__init__" p2) [.Name e.fld p3] [] p4) p5, .Assign [.Attribute (.Name e.self p6) e.fld p7] (.Name e.fld p8) p9]
  par : (e.params.posonlyargs ++ e.params.args).head? = some ar
  har : ar.arg = e.self
  top : (P.main.scope.names.lookup ("super" : Str)).isSome = false
  ks : e.scope.names.lookup ("super" : Str) = some .globalImplicit
  kc : e.scope.names.lookup ("__class__" : Str) = some .free
  ka : e.scope.names.lookup e.self = some .local
  kf : e.scope.names.lookup e.fld = some .local
  kk : e.scope.kind = .function
  cell : ∀ x ∈ e.scope.names, x.2 ≠ .cell
  free : ∀ x, e.scope.names.lookup x = some .free → x = "__class__"
  ne : e.self ≠ e.fld
  co : e.scope.isCoroutine = false
  gen : e.scope.isGenerator = false
  db : (e.fld == ("__debug__" : Str)) = false
  db2 : (e.self == ("__debug__" : Str)) = false
  ev : ∀ L f cda cc, ∃ pl : Sem Bool, eval (.Call (.Attribute (.Call (.Name "super" p0) [] [] p1) "__init__" p2) [.Name e.fld p3] [] p4) (PySem.W.ksEnv e.qual e.scope L f (.ref cda) cc) = (do
      let ov ← attributeBase (.Call (.Name "super" p0) [] [] p1) "__init__" (PySem.W.ksEnv e.qual e.scope L f (.ref cda) cc) (eval (.Call (.Name "super" p0) [] [] p1) (PySem.W.ksEnv e.qual e.scope L f (.ref cda) cc))
      standAt p2.atName
      let (g, first) ← holding [ov] (getMethod ov "__init__" pl)
      callWith p4 g first (backTo p4 (starEach [.Name e.fld p3] (PySem.W.ksEnv e.qual e.scope L f (.ref cda) cc))) [])
  s1 : ∀ L f cda cc, swapsWith (.Call (.Attribute (.Call (.Name "super" p0) [] [] p1) "__init__" p2) [.Name e.fld p3] [] p4) none p5.line (PySem.W.ksEnv e.qual e.scope L f (.ref cda) cc) = pure false
  s2 : ∀ L f cda cc, swapsWith (.Name e.fld p8) (some (.Attribute (.Name e.self p6) e.fld p7)) p9.line (PySem.W.ksEnv e.qual e.scope L f (.ref cda) cc) = pure false
theorem ExF.ini {P : Program} {w : World} {K : PySem.W.Frag} {mg : Str → Option Value} {base : Heap} {CX : CXT} {k : Nat} {e : ExW} {C f : Addr} {fd : FuncData} {p0 p1 p2 p3 p4 p5 p6 p7 p8 p9 : Pos} {ar : Arg} (F : ExF P K e C f fd) (T : ExT P e p0 p1 p2 p3 p4 p5 p6 p7 p8 p9 ar) (hms : mg "super" = none) (hst : PySem.W.nsIn K cStatics "thirdparty.any" = some none) :
    FnOk P w K mg base CX (k + 1) f fd [e.self, e.fld] (spIni C e.fld) := by
  obtain ⟨oc, od, dV, kV, doc, pm, ct, an, osl, cda, cc, ccl, cl, cdd, cld, ccs, csl, vs, file, tf, hfd, lk, hcd, lc, hvs, hfile, lcell⟩ := F.fn
  obtain ⟨nm, q, N, bs, bm, sn, sub, ab, col, dd, k0, k1, k2, k3, k5, hC, hbm⟩ := F.T.cls
  have hcl : PySem.W.clsIn K C = some { name := nm, bases := bs, mro := .ref C :: bm, ns := N, qualname := q, hasDict := true, slotNames := sn, subclasses := sub, abstract := ab, collection := col, hasDel := false } := by unfold PySem.W.clsIn; rw [hC] <;> rfl
  rw [T.body] at hfd
  subst hfd
  exact ini_ok lk hcd T.par T.har lc hvs (by rw [hfile]; simp) lcell F.T hcl F.sup F.sub hst F.mro hms T.top F.no T.ks T.kc T.ka T.kf T.kk T.cell T.free T.ne T.co T.gen T.db T.db2 (fun L => T.ev L f cda cc) (fun L => T.s1 L f cda cc) (fun L => T.s2 L f cda cc)
end Mr

set_option Elab.async false
set_option linter.all false
set_option maxRecDepth 100000
set_option maxHeartbeats 1000000
namespace Mr
open PySem PySem.Spec PyProof.Rows L2
/-! ### values, objects, the monad -/
/-- fl, fd, ft, ob: by value, never changed again; ref: an object of the def's own heap -/
inductive Val where
  | non | bl (b : Bool) | int (i : Int) | str (x : Str) | tup (xs : List Val) | ref (n : Nat)
  | fl (xs : List Val) | fd (ks : List Key) (vs : List Val) | ft (ks : List (List Key)) (vs : List Val)
  | ob (c : Str) (ns : List Str) (vs : List Val) | ex (c fld : Str) (v : Val) | sl (xs : List Val)
inductive AO where
  | lst (xs : List Val) | dk (ks : List Key) (vs : List Val) | dt (ks : List (List Key)) (vs : List Val)
  | ob (c : Str) (ns : List Str) (vs : List Val) | fz (v : Val)
abbrev AH := List AO
def AO.mut : AO → Bool
  | .fz _ => false
  | _ => true
inductive Res (α : Type) where
  | ok (a : α) (h : AH)
  | exc (c fld : Str) (v : Val) (h : AH)
  | bad
abbrev M (α : Type) := AH → Res α
def bnd {α β : Type} (m : M α) (f : α → M β) : M β := fun h => match m h with
  | .ok a h' => f a h'
  | .exc c g v h' => .exc c g v h'
  | .bad => .bad
def ret {α : Type} (a : α) : M α := fun h => .ok a h
def fail {α : Type} : M α := fun _ => .bad
/-- what neither raises nor changes -/
def lft {α : Type} (f : AH → Option α) : M α := fun h => match f h with
  | some a => .ok a h
  | none => .bad
abbrev Sl := List (Option Val)
abbrev ME := Sl → M Val
abbrev MT := Sl → M Bool
abbrev MA := Sl → M (List Val)
abbrev MO := Sl → M (Option Int)

/-! ### what stands for what -/
/-- the addresses of the own objects; those that are never changed again -/
structure Rg where
  m : List Addr
  fz : Addr → Prop
abbrev Rg.lo (r : Rg) : Rg := ⟨[], r.fz⟩
/-- a list of the written part or the script's -/
def FzL (K : KK) (H : Hp) (a : Addr) (xs : List V) : Prop :=
  (∃ o, H a = some (.frz o (.lst xs))) ∨
    ∃ (o : Obj) (its : Array Value) (n : Nat), K.K.lookup a = some o ∧ o.cls = .type "list" ∧ o.dict = none ∧ o.data = .seq its n ∧ its.size ≤ sizeLine ∧ Vals xs its.toList
mutual
inductive RV (K : KK) : Rg → Hp → Val → V → Prop
  | non {r H} : RV K r H .non .non
  | bl {r H} (b : Bool) : RV K r H (.bl b) (.bl b)
  | int {r H} (i : Int) : RV K r H (.int i) (.int i)
  | str {r H} (x : Str) : RV K r H (.str x) (.str x)
  | tup {r H} {a : Addr} {us : List V} {xs : List Val} : SqT K H a us → RVs K r H xs us → RV K r H (.tup xs) (.ref a)
  | ref {r : Rg} {H} {n : Nat} {a : Addr} : r.m[n]? = some a → RV K r H (.ref n) (.ref a)
  | fl {r : Rg} {H} {a : Addr} {us : List V} {xs : List Val} : r.fz a → H a = some (.lst us) → RVs K ⟨[], r.fz⟩ H xs us → RV K r H (.fl xs) (.ref a)
  | sl {r : Rg} {H} {a : Addr} {us : List V} {xs : List Val} : FzL K H a us → RVs K ⟨[], r.fz⟩ H xs us → RV K r H (.sl xs) (.ref a)
  | fd {r : Rg} {H} {a : Addr} {ks : List Key} {us : List V} {xs : List Val} : r.fz a → H a = some (.dK (ks.zip us)) → ks.length = us.length → RVs K ⟨[], r.fz⟩ H xs us → RV K r H (.fd ks xs) (.ref a)
  | ft {r : Rg} {H} {a : Addr} {ks : List (List Key)} {us : List V} {xs : List Val} : r.fz a → H a = some (.dT (ks.zip us)) → ks.length = us.length → RVs K ⟨[], r.fz⟩ H xs us → RV K r H (.ft ks xs) (.ref a)
  | ob {r : Rg} {H} {a C dx : Addr} {c : Str} {ns : List Str} {us : List V} {xs : List Val} : r.fz a → K.ct c = some C → H a = some (.ins C dx (ns.zip us)) → ns.length = us.length → RVs K ⟨[], r.fz⟩ H xs us → RV K r H (.ob c ns xs) (.ref a)
  | ex {r : Rg} {H} {c fld : Str} {v : Val} {u : V} {a C d : Addr} : K.ct c = some C → KxAt H a C d [(fld, u)] → RV K ⟨[], r.fz⟩ H v u → RV K r H (.ex c fld v) (.ref a)
inductive RVs (K : KK) : Rg → Hp → List Val → List V → Prop
  | nil {r H} : RVs K r H [] []
  | cons {r H} {x : Val} {u : V} {xs : List Val} {us : List V} : RV K r H x u → RVs K r H xs us → RVs K r H (x :: xs) (u :: us)
end
def RO (K : KK) (r : Rg) (H : Hp) (a : Addr) : AO → Prop
  | .lst xs => ∃ us, H a = some (.lst us) ∧ RVs K r H xs us
  | .dk ks xs => ∃ us, H a = some (.dK (ks.zip us)) ∧ ks.length = us.length ∧ RVs K r H xs us
  | .dt ks xs => ∃ us, H a = some (.dT (ks.zip us)) ∧ ks.length = us.length ∧ RVs K r H xs us
  | .ob c ns xs => ∃ us C dx, K.ct c = some C ∧ H a = some (.ins C dx (ns.zip us)) ∧ ns.length = us.length ∧ RVs K r H xs us
  | .fz v => RV K r.lo H v (.ref a)
structure Rel (K : KK) (r : Rg) (h : AH) (H : Hp) : Prop where
  len : r.m.length = h.length
  nd : ∀ (i j : Nat) (a : Addr), r.m[i]? = some a → r.m[j]? = some a → i = j
  ob : ∀ (i : Nat) (a : Addr) (o : AO), r.m[i]? = some a → h[i]? = some o → RO K r H a o
  mz : ∀ (i : Nat) (a : Addr) (o : AO), r.m[i]? = some a → h[i]? = some o → o.mut = true → ¬ r.fz a
  fd : ∀ a, r.fz a → ∃ o, H a = some o
  md : ∀ a, a ∈ r.m → ∃ o, H a = some o
structure Keep (H H' : Hp) : Prop where
  tup : ∀ a xs, H a = some (.tup xs) → H' a = some (.tup xs)
  frz : ∀ a o u, H a = some (.frz o u) → H' a = some (.frz o u)
  xd : ∀ a fs, H a = some (.xd fs) → H' a = some (.xd fs)
  ek : ∀ a cls d, H a = some (exk a cls d) → H' a = some (exk a cls d)
theorem Keep.refl (H : Hp) : Keep H H := ⟨fun _ _ e => e, fun _ _ _ e => e, fun _ _ e => e, fun _ _ _ e => e⟩
theorem Keep.trans {H H1 H2 : Hp} (a : Keep H H1) (b : Keep H1 H2) : Keep H H2 := ⟨fun x xs e => b.tup _ _ (a.tup x xs e), fun x o u e => b.frz _ _ _ (a.frz x o u e), fun x xs e => b.xd _ _ (a.xd x xs e), fun x o u e => b.ek _ _ _ (a.ek x o u e)⟩
theorem Keep.all {H H' : Hp} (h : ∀ a o, H a = some o → H' a = some o) : Keep H H' := ⟨fun _ _ e => h _ _ e, fun _ _ _ e => h _ _ e, fun _ _ e => h _ _ e, fun _ _ _ e => h _ _ e⟩
theorem KxAt.go {H H' : Hp} {a C d : Addr} {fs : List (Str × V)} (g : Keep H H') (k : KxAt H a C d fs) : KxAt H' a C d fs := ⟨g.ek _ _ _ k.1, g.xd _ _ k.2⟩
/-- values stay -/
structure Vo (r : Rg) (H : Hp) (r' : Rg) (H' : Hp) : Prop where
  pre : ∀ (n : Nat) (a : Addr), r.m[n]? = some a → r'.m[n]? = some a
  kp : Keep H H'
  fz : ∀ a, r.fz a → r'.fz a
  fh : ∀ a o, r.fz a → H a = some o → H' a = some o
theorem Vo.refl (r : Rg) (H : Hp) : Vo r H r H := ⟨fun _ _ e => e, Keep.refl H, fun _ e => e, fun _ _ _ e => e⟩
theorem Vo.trans {r r1 r2 : Rg} {H H1 H2 : Hp} (a : Vo r H r1 H1) (b : Vo r1 H1 r2 H2) : Vo r H r2 H2 := ⟨fun n x e => b.pre n x (a.pre n x e), a.kp.trans b.kp, fun x e => b.fz x (a.fz x e), fun x o z e => b.fh x o (a.fz x z) (a.fh x o z e)⟩
theorem Vo.lo {r r' : Rg} {H H' : Hp} (g : Vo r H r' H') : Vo r.lo H r'.lo H' := ⟨fun n a e => (by cases e), g.kp, g.fz, g.fh⟩
/-- everything not the own stays -/
structure Go (r : Rg) (H : Hp) (r' : Rg) (H' : Hp) : Prop extends Vo r H r' H' where
  fr : ∀ a o, H a = some o → a ∉ r.m → H' a = some o
  nw : ∀ a, a ∈ r'.m → a ∈ r.m ∨ H a = none
  fn : ∀ a, r'.fz a → r.fz a ∨ a ∈ r.m ∨ H a = none
theorem Go.refl (r : Rg) (H : Hp) : Go r H r H := ⟨Vo.refl r H, fun _ _ e _ => e, fun _ e => .inl e, fun _ e => .inl e⟩
theorem Go.sub {r r' : Rg} {H H' : Hp} (g : Go r H r' H') {a : Addr} (h : a ∈ r.m) : a ∈ r'.m := by
  obtain ⟨n, hn⟩ := List.getElem?_of_mem h
  exact List.mem_of_getElem? (g.pre n a hn)
theorem Go.trans {r r1 r2 : Rg} {H H1 H2 : Hp} (a : Go r H r1 H1) (b : Go r1 H1 r2 H2) : Go r H r2 H2 := by
  have up : ∀ x, x ∉ r.m → (∃ o, H x = some o) → x ∉ r1.m := fun x hx ⟨o, e⟩ hm => by
    rcases a.nw x hm with z | z
    · exact hx z
    · rw [e] at z; cases z
  have old : ∀ x, H1 x = none → x ∈ r.m ∨ H x = none := fun x e => by
    by_cases hx : x ∈ r.m
    · exact .inl hx
    · cases q : H x with
      | none => exact .inr rfl
      | some o => rw [a.fr x o q hx] at e; cases e
  refine ⟨a.toVo.trans b.toVo, fun x o e hx => b.fr x o (a.fr x o e hx) (up x hx ⟨o, e⟩), fun x hx => ?_, fun x hx => ?_⟩
  · rcases b.nw x hx with z | z
    · exact a.nw x z
    · exact old x z
  · rcases b.fn x hx with z | z | z
    · exact a.fn x z
    · exact .inr (a.nw x z)
    · exact .inr (old x z)
section
variable {K : KK} {r r' : Rg} {H H' : Hp}
theorem sqt_go {a : Addr} {us : List V} (g : Keep H H') (h : SqT K H a us) : SqT K H' a us := by
  rcases h with (h | ⟨o, h⟩) | h
  · exact .inl (.inl (g.tup _ _ h))
  · exact .inl (.inr ⟨o, g.frz _ _ _ h⟩)
  · exact .inr h
theorem fzl_go {a : Addr} {us : List V} (g : Keep H H') (h : FzL K H a us) : FzL K H' a us := by
  rcases h with ⟨o, h⟩ | h
  · exact .inl ⟨o, g.frz _ _ _ h⟩
  · exact .inr h
mutual
theorem RV.vo : ∀ {r r' : Rg} {H H' : Hp} {x : Val} {u : V}, Vo r H r' H' → RV K r H x u → RV K r' H' x u
  | _, _, _, _, _, _, _, .non => .non
  | _, _, _, _, _, _, _, .bl b => .bl b
  | _, _, _, _, _, _, _, .int i => .int i
  | _, _, _, _, _, _, _, .str x => .str x
  | _, _, _, _, _, _, g, .tup s t => .tup (sqt_go g.kp s) (RVs.vo g t)
  | _, _, _, _, _, _, g, .ref e => .ref (g.pre _ _ e)
  | _, _, _, _, _, _, g, .fl z e t => .fl (g.fz _ z) (g.fh _ _ z e) (RVs.vo g.lo t)
  | _, _, _, _, _, _, g, .sl z t => .sl (fzl_go g.kp z) (RVs.vo g.lo t)
  | _, _, _, _, _, _, g, .fd z e l t => .fd (g.fz _ z) (g.fh _ _ z e) l (RVs.vo g.lo t)
  | _, _, _, _, _, _, g, .ft z e l t => .ft (g.fz _ z) (g.fh _ _ z e) l (RVs.vo g.lo t)
  | _, _, _, _, _, _, g, .ob z c e l t => .ob (g.fz _ z) c (g.fh _ _ z e) l (RVs.vo g.lo t)
  | _, _, _, _, _, _, g, .ex e k q => .ex e (k.go g.kp) (RV.vo g.lo q)
theorem RVs.vo : ∀ {r r' : Rg} {H H' : Hp} {xs : List Val} {us : List V}, Vo r H r' H' → RVs K r H xs us → RVs K r' H' xs us
  | _, _, _, _, _, _, _, .nil => .nil
  | _, _, _, _, _, _, g, .cons a b => .cons (RV.vo g a) (RVs.vo g b)
end
theorem RV.go {x : Val} {u : V} (g : Go r H r' H') (h : RV K r H x u) : RV K r' H' x u := h.vo g.toVo
theorem RVs.go {xs : List Val} {us : List V} (g : Go r H r' H') (h : RVs K r H xs us) : RVs K r' H' xs us := h.vo g.toVo
/-- what is by value is so for everyone -/
theorem vo_up : Vo r.lo H r H := ⟨fun _ _ e => (by cases e), Keep.refl H, fun _ e => e, fun _ _ _ e => e⟩
theorem RV.up {x : Val} {u : V} (h : RV K r.lo H x u) : RV K r H x u := RV.vo vo_up h
theorem RVs.up {xs : List Val} {us : List V} (h : RVs K r.lo H xs us) : RVs K r H xs us := RVs.vo vo_up h
theorem RVs.length : ∀ {xs : List Val} {us : List V}, RVs K r H xs us → us.length = xs.length
  | _, _, .nil => rfl
  | _, _, .cons _ b => by rw [List.length_cons, List.length_cons, RVs.length b]
theorem RVs.get : ∀ {xs : List Val} {us : List V} {i : Nat} {x : Val}, RVs K r H xs us → xs[i]? = some x → ∃ u, us[i]? = some u ∧ RV K r H x u
  | _, _, _, _, .nil, e => by simp at e
  | _, _, 0, _, .cons a _, e => by
    have e' := Option.some.inj e
    subst e'
    exact ⟨_, rfl, a⟩
  | _, _, i + 1, x, .cons _ b, e => by
    obtain ⟨u, h1, h2⟩ := RVs.get (i := i) (x := x) b (by simpa using e)
    exact ⟨u, by simpa using h1, h2⟩
theorem RVs.get2 : ∀ {xs : List Val} {us : List V} {i : Nat} {u : V}, RVs K r H xs us → us[i]? = some u → ∃ x, xs[i]? = some x ∧ RV K r H x u
  | _, _, _, _, .nil, e => by simp at e
  | _, _, 0, _, .cons a _, e => by
    have e' := Option.some.inj e
    subst e'
    exact ⟨_, rfl, a⟩
  | _, _, i + 1, x, .cons _ b, e => by
    obtain ⟨u, h1, h2⟩ := RVs.get2 (i := i) b (by simpa using e)
    exact ⟨u, by simpa using h1, h2⟩
theorem RVs.append : ∀ {xs ys : List Val} {us ws : List V}, RVs K r H xs us → RVs K r H ys ws → RVs K r H (xs ++ ys) (us ++ ws)
  | _, _, _, _, .nil, s => s
  | _, _, _, _, .cons a b, s => .cons a (RVs.append b s)
theorem RVs.take : ∀ {xs : List Val} {us : List V} (n : Nat), RVs K r H xs us → RVs K r H (xs.take n) (us.take n)
  | _, _, 0, _ => .nil
  | _, _, _ + 1, .nil => .nil
  | _, _, n + 1, .cons a b => .cons a (RVs.take n b)
theorem RVs.drop : ∀ {xs : List Val} {us : List V} (n : Nat), RVs K r H xs us → RVs K r H (xs.drop n) (us.drop n)
  | _, _, 0, s => s
  | _, _, _ + 1, .nil => .nil
  | _, _, n + 1, .cons _ b => RVs.drop n b
theorem RVs.reverse : ∀ {xs : List Val} {us : List V}, RVs K r H xs us → RVs K r H xs.reverse us.reverse
  | _, _, .nil => .nil
  | _, _, .cons a b => by rw [List.reverse_cons, List.reverse_cons]; exact (RVs.reverse b).append (.cons a .nil)
theorem RVs.set {x : Val} {u : V} (a : RV K r H x u) : ∀ {xs : List Val} {us : List V} (n : Nat), RVs K r H xs us → RVs K r H (xs.set n x) (us.set n u)
  | _, _, _, .nil => .nil
  | _, _, 0, .cons _ b => .cons a b
  | _, _, n + 1, .cons q b => .cons q (RVs.set a n b)
theorem RVs.mem : ∀ {xs : List Val} {us : List V} {x : Val}, RVs K r H xs us → x ∈ xs → ∃ u ∈ us, RV K r H x u := fun h hx => by
  obtain ⟨i, hi⟩ := List.getElem?_of_mem hx
  obtain ⟨u, e, q⟩ := h.get hi
  exact ⟨u, List.mem_of_getElem? e, q⟩
theorem RVs.one {x : Val} {us : List V} (q : RVs K r H [x] us) : ∃ u, us = [u] ∧ RV K r H x u := by
  cases q with
  | cons a b => cases b; exact ⟨_, rfl, a⟩
theorem RVs.two {x y : Val} {us : List V} (q : RVs K r H [x, y] us) : ∃ u w, us = [u, w] ∧ RV K r H x u ∧ RV K r H y w := by
  cases q with
  | cons a b =>
    obtain ⟨w, rfl, q⟩ := b.one
    exact ⟨_, _, rfl, a, q⟩
theorem RVs.three {x y z : Val} {us : List V} (q : RVs K r H [x, y, z] us) : ∃ u w v, us = [u, w, v] ∧ RV K r H x u ∧ RV K r H y w ∧ RV K r H z v := by
  cases q with
  | cons a b =>
    obtain ⟨w, v, e, q, q'⟩ := b.two
    subst e
    exact ⟨_, _, _, rfl, a, q, q'⟩
theorem RVs.ints : ∀ ys : List Int, RVs K r H (ys.map Val.int) (ys.map V.int)
  | [] => .nil
  | y :: ys => .cons (.int y) (RVs.ints ys)
theorem RVs.strs : ∀ ys : List Str, RVs K r H (ys.map Val.str) (ys.map V.str)
  | [] => .nil
  | y :: ys => .cons (.str y) (RVs.strs ys)
/-! ### steps of the heap -/
/-- something new that is not the own -/
theorem go_new {p : Addr} {o : HO} (n : H p = none) : Go r H r (upd H p o) := by
  have k : ∀ a u, H a = some u → upd H p o a = some u := fun a u e => by rw [upd_ne (ne_of_none e n)]; exact e
  exact ⟨⟨fun _ _ e => e, Keep.all k, fun _ e => e, fun a u _ e => k a u e⟩, fun a u e _ => k a u e, fun _ e => .inl e, fun _ e => .inl e⟩
theorem RO.go {a : Addr} {o : AO} (g : Vo r H r' H') (hs : o.mut = true → H' a = H a) (x : RO K r H a o) : RO K r' H' a o := by
  cases o with
  | lst xs =>
    obtain ⟨us, e, q⟩ := x
    exact ⟨us, by rw [hs rfl]; exact e, q.vo g⟩
  | dk ks vs =>
    obtain ⟨ws, e, z, q⟩ := x
    exact ⟨ws, by rw [hs rfl]; exact e, z, q.vo g⟩
  | dt ks vs =>
    obtain ⟨ws, e, z, q⟩ := x
    exact ⟨ws, by rw [hs rfl]; exact e, z, q.vo g⟩
  | ob c ns vs =>
    obtain ⟨ws, C, dx, c, e, z, q⟩ := x
    exact ⟨ws, C, dx, c, by rw [hs rfl]; exact e, z, q.vo g⟩
  | fz v => exact RV.vo g.lo x
theorem Rel.same {h : AH} (R : Rel K r h H) (k : ∀ a o, H a = some o → H' a = some o) : Rel K r h H' := by
  have g : Vo r H r H' := ⟨fun _ _ e => e, Keep.all k, fun _ e => e, fun a o _ e => k a o e⟩
  refine ⟨R.len, R.nd, fun i a o e1 e2 => (R.ob i a o e1 e2).go g fun _ => ?_, R.mz, fun a z => ?_, fun a z => ?_⟩
  · obtain ⟨u, e⟩ := R.md a (List.mem_of_getElem? e1)
    rw [e, k a u e]
  · obtain ⟨u, e⟩ := R.fd a z
    exact ⟨u, k a u e⟩
  · obtain ⟨u, e⟩ := R.md a z
    exact ⟨u, k a u e⟩
theorem Rel.newu {h : AH} {p : Addr} {u : HO} (R : Rel K r h H) (n : H p = none) : Rel K r h (upd H p u) := R.same fun a o e => by rw [upd_ne (ne_of_none e n)]; exact e
/-- an untracked thing becomes one of the own -/
abbrev Rg.add (r : Rg) (p : Addr) : Rg := ⟨r.m ++ [p], r.fz⟩
theorem pre_snoc {r : List Addr} {p : Addr} (n : Nat) (a : Addr) (e : r[n]? = some a) : (r ++ [p])[n]? = some a := by
  rw [List.getElem?_append_left (List.getElem?_eq_some_iff.mp e).1]
  exact e
theorem vo_add {p : Addr} : Vo r H (r.add p) H := ⟨fun n a e => pre_snoc n a e, Keep.refl H, fun _ e => e, fun _ _ _ e => e⟩
theorem snoc_at {α : Type} {xs : List α} {x y : α} {i : Nat} (e : (xs ++ [x])[i]? = some y) : xs[i]? = some y ∨ (i = xs.length ∧ y = x) := by
  by_cases hi : i < xs.length
  · rw [List.getElem?_append_left hi] at e
    exact .inl e
  · have hi2 : i < (xs ++ [x]).length := (List.getElem?_eq_some_iff.mp e).1
    rw [List.length_append] at hi2
    have hi3 : i = xs.length := by
      have : ([x] : List α).length = 1 := rfl
      omega
    subst hi3
    rw [List.getElem?_append_right (Nat.le_refl _), Nat.sub_self] at e
    exact .inr ⟨rfl, (Option.some.inj e).symm⟩
theorem Rel.add {h : AH} {p : Addr} {o : AO} (R : Rel K r h H) (n1 : p ∉ r.m) (n2 : ¬ r.fz p) (q : RO K (r.add p) H p o) (hp : ∃ u, H p = some u) : Rel K (r.add p) (h ++ [o]) H := by
  have at_ : ∀ (i : Nat) (a : Addr) (o' : AO), (r.m ++ [p])[i]? = some a → (h ++ [o])[i]? = some o' → (r.m[i]? = some a ∧ h[i]? = some o') ∨ (a = p ∧ o' = o) := fun i a o' e1 e2 => by
    rcases snoc_at e1 with z | ⟨z, z'⟩
    · rcases snoc_at e2 with y | ⟨y, y'⟩
      · exact .inl ⟨z, y⟩
      · have := (List.getElem?_eq_some_iff.mp z).1
        rw [R.len, y] at this
        exact absurd this (Nat.lt_irrefl _)
    · rcases snoc_at e2 with y | ⟨y, y'⟩
      · have := (List.getElem?_eq_some_iff.mp y).1
        rw [← R.len, z] at this
        exact absurd this (Nat.lt_irrefl _)
      · exact .inr ⟨z', y'⟩
  refine ⟨by rw [List.length_append, List.length_append, R.len]; rfl, fun i j a e1 e2 => ?_, fun i a o' e1 e2 => ?_, fun i a o' e1 e2 mt => ?_, R.fd, fun a ha => ?_⟩
  · rcases snoc_at e1 with z | ⟨z, z'⟩
    · rcases snoc_at e2 with y | ⟨y, y'⟩
      · exact R.nd i j a z y
      · exact absurd (y' ▸ List.mem_of_getElem? z) n1
    · rcases snoc_at e2 with y | ⟨y, y'⟩
      · exact absurd (z' ▸ List.mem_of_getElem? y) n1
      · rw [z, y]
  · rcases at_ i a o' e1 e2 with ⟨z, y⟩ | ⟨z, y⟩
    · exact (R.ob i a o' z y).go vo_add fun _ => rfl
    · subst z; subst y; exact q
  · rcases at_ i a o' e1 e2 with ⟨z, y⟩ | ⟨z, y⟩
    · exact R.mz i a o' z y mt
    · subst z; exact n2
  · rcases List.mem_append.mp ha with z | z
    · exact R.md a z
    · rw [List.mem_singleton.mp z]; exact hp
/-- an untracked thing is never changed again -/
abbrev Rg.ice (r : Rg) (p : Addr) : Rg := ⟨r.m, fun a => r.fz a ∨ a = p⟩
theorem vo_ice {p : Addr} : Vo r H (r.ice p) H := ⟨fun _ _ e => e, Keep.refl H, fun _ e => .inl e, fun _ _ _ e => e⟩
theorem Rel.ice {h : AH} {p : Addr} (R : Rel K r h H) (n1 : p ∉ r.m) (hp : ∃ u, H p = some u) : Rel K (r.ice p) h H := by
  refine ⟨R.len, R.nd, fun i a o e1 e2 => (R.ob i a o e1 e2).go vo_ice fun _ => rfl, fun i a o e1 e2 mt z => ?_, fun a z => ?_, R.md⟩
  · rcases z with z | z
    · exact R.mz i a o e1 e2 mt z
    · exact n1 (z ▸ List.mem_of_getElem? e1)
  · rcases z with z | z
    · exact R.fd a z
    · rw [z]; exact hp
/-- an own object is never changed again -/
theorem Rel.freeze {h : AH} {n : Nat} {p : Addr} {v : Val} (R : Rel K r h H) (en : r.m[n]? = some p) (q : RV K (r.ice p).lo H v (.ref p)) : Rel K (r.ice p) (h.set n (.fz v)) H := by
  have hn : n < h.length := by rw [← R.len]; exact (List.getElem?_eq_some_iff.mp en).1
  refine ⟨by rw [List.length_set]; exact R.len, R.nd, fun i a o e1 e2 => ?_, fun i a o e1 e2 mt z => ?_, fun a z => ?_, R.md⟩
  · by_cases hi : i = n
    · subst hi
      rw [List.getElem?_set_self hn] at e2
      cases e2
      rw [en] at e1
      cases e1
      exact q
    · rw [List.getElem?_set_ne (Ne.symm hi)] at e2
      exact (R.ob i a o e1 e2).go vo_ice fun _ => rfl
  · by_cases hi : i = n
    · subst hi
      rw [List.getElem?_set_self hn] at e2
      cases e2
      cases mt
    · rw [List.getElem?_set_ne (Ne.symm hi)] at e2
      rcases z with z | z
      · exact R.mz i a o e1 e2 mt z
      · subst z
        exact hi (R.nd i n _ e1 en)
  · rcases z with z | z
    · exact R.fd a z
    · rw [z]; exact R.md p (List.mem_of_getElem? en)
/-- what may be changed in place -/
def Flat : HO → Prop
  | .lst _ => True
  | .dK _ => True
  | .dT _ => True
  | .ins _ _ _ => True
  | _ => False
theorem go_set {h : AH} {n : Nat} {a : Addr} {o : AO} {u u' : HO} (R : Rel K r h H) (e1 : r.m[n]? = some a) (e2 : h[n]? = some o) (mt : o.mut = true) (e : H a = some u) (f : Flat u) : Go r H r (upd H a u') := by
  refine ⟨⟨fun _ _ e => e, ⟨fun b xs q => ?_, fun b o w q => ?_, fun b xs q => ?_, fun b o w q => ?_⟩, fun _ z => z, fun b w z q => ?_⟩, fun b w q hb => ?_, fun _ z => .inl z, fun _ z => .inl z⟩
  · have ne : b ≠ a := fun z => by subst z; rw [e] at q; cases q; exact f
    rw [upd_ne ne]; exact q
  · have ne : b ≠ a := fun z => by subst z; rw [e] at q; cases q; exact f
    rw [upd_ne ne]; exact q
  · have ne : b ≠ a := fun z => by subst z; rw [e] at q; cases q; exact f
    rw [upd_ne ne]; exact q
  · have ne : b ≠ a := fun z => by
      subst z
      rw [e] at q
      have q2 := Option.some.inj q
      rw [q2] at f
      exact f
    rw [upd_ne ne]; exact q
  · have ne : b ≠ a := fun y => by subst y; exact R.mz n _ o e1 e2 mt z
    rw [upd_ne ne]; exact q
  · have ne : b ≠ a := fun y => by subst y; exact hb (List.mem_of_getElem? e1)
    rw [upd_ne ne]; exact q
theorem Rel.set {h : AH} {n : Nat} {a : Addr} {o o' : AO} {u u' : HO} (R : Rel K r h H) (e1 : r.m[n]? = some a) (e2 : h[n]? = some o) (mt : o.mut = true) (e : H a = some u) (f : Flat u) (q : RO K r (upd H a u') a o') : Rel K r (h.set n o') (upd H a u') := by
  have g : Go r H r (upd H a u') := go_set R e1 e2 mt e f
  have hn : n < h.length := (List.getElem?_eq_some_iff.mp e2).1
  have some_ : ∀ b, (∃ w, H b = some w) → ∃ w, upd H a u' b = some w := fun b ⟨w, hw⟩ => by
    by_cases hb : b = a
    · exact ⟨u', by rw [hb, upd_same]⟩
    · exact ⟨w, by rw [upd_ne hb]; exact hw⟩
  refine ⟨by rw [List.length_set]; exact R.len, R.nd, fun j b o1 x1 x2 => ?_, fun j b o1 x1 x2 m1 => ?_, fun b z => some_ b (R.fd b z), fun b z => some_ b (R.md b z)⟩
  · by_cases hj : j = n
    · subst hj
      rw [List.getElem?_set_self hn] at x2
      cases x2
      rw [e1] at x1
      cases x1
      exact q
    · rw [List.getElem?_set_ne (Ne.symm hj)] at x2
      refine (R.ob j b o1 x1 x2).go g.toVo fun _ => upd_ne fun z => ?_
      subst z
      exact hj (R.nd j n b x1 e1)
  · by_cases hj : j = n
    · subst hj
      rw [e1] at x1
      cases x1
      exact R.mz j a o e1 e2 mt
    · rw [List.getElem?_set_ne (Ne.symm hj)] at x2
      exact R.mz j b o1 x1 x2 m1
end
/-! ### slots -/
def RSl (K : KK) (r : Rg) (H : Hp) (sl : Sl) (s : L2.St) : Prop := sl.length = s.length ∧ ∀ (i : Nat) (x : Val), sl[i]? = some (some x) → ∃ u, s[i]? = some (some u) ∧ RV K r H x u
section
variable {K : KK} {r r' : Rg} {H H' : Hp} {sl : Sl} {s : L2.St}
theorem RSl.go (g : Go r H r' H') (x : RSl K r H sl s) : RSl K r' H' sl s := ⟨x.1, fun i v e => let ⟨u, e1, q⟩ := x.2 i v e; ⟨u, e1, q.go g⟩⟩
theorem RSl.set {i : Nat} {v : Val} {u : V} (x : RSl K r H sl s) (q : RV K r H v u) : RSl K r H (sl.set i (some v)) (s.set i (some u)) := by
  refine ⟨by rw [List.length_set, List.length_set]; exact x.1, fun j w e => ?_⟩
  by_cases hj : j = i
  · subst hj
    by_cases hl : j < sl.length
    · rw [List.getElem?_set_self hl] at e
      have e' := Option.some.inj (Option.some.inj e)
      subst e'
      exact ⟨u, List.getElem?_set_self (by rw [← x.1]; exact hl), q⟩
    · rw [List.getElem?_eq_none (by simpa using hl)] at e; cases e
  · rw [List.getElem?_set_ne (Ne.symm hj)] at e
    obtain ⟨u', e1, q1⟩ := x.2 j w e
    exact ⟨u', by rw [List.getElem?_set_ne (Ne.symm hj)]; exact e1, q1⟩
theorem RSl.none {i : Nat} (x : RSl K r H sl s) : RSl K r H (sl.set i none) (s.set i none) := by
  refine ⟨by rw [List.length_set, List.length_set]; exact x.1, fun j w e => ?_⟩
  by_cases hj : j = i
  · subst hj
    by_cases hl : j < sl.length
    · rw [List.getElem?_set_self hl] at e
      cases e
    · rw [List.getElem?_eq_none (by simpa using hl)] at e; cases e
  · rw [List.getElem?_set_ne (Ne.symm hj)] at e
    obtain ⟨u', e1, q1⟩ := x.2 j w e
    exact ⟨u', by rw [List.getElem?_set_ne (Ne.symm hj)]; exact e1, q1⟩
end
end Mr

set_option Elab.async false
set_option linter.all false
set_option maxRecDepth 100000
set_option maxHeartbeats 1000000
namespace Mr
open PySem PySem.Spec PyProof.Rows L2
/-! ### outcomes -/
def Out {α : Type} (K : KK) (r : Rg) (H : Hp) (res : Res α) (P : α → Rg → AH → Hp → Prop) (E : XK) : Prop := match res with
  | .ok a h' => ∀ r' H', Go r H r' H' → Rel K r' h' H' → P a r' h' H'
  | .exc c fld v h' => ∀ r' H' u d C, Go r H r' H' → Rel K r' h' H' → RV K r'.lo H' v u → K.ct c = some C → H' d = none → E (.ref C) (some d) (upd H' d (.xd [(fld, u)]))
  | .bad => False
section
variable {K : KK} {r r' : Rg} {H H' : Hp} {E : XK} {α β : Type}
theorem Out.base {res : Res α} {P : α → Rg → AH → Hp → Prop} (o : Out K r H res P E) (g : Go r H r' H') : Out K r' H' res P E := by
  cases res with
  | ok a h => exact fun r2 H2 g2 R2 => o r2 H2 (g.trans g2) R2
  | exc c f v h => exact fun r2 H2 u d C g2 R2 => o r2 H2 u d C (g.trans g2) R2
  | bad => exact o
theorem Out.mono {res : Res α} {P P' : α → Rg → AH → Hp → Prop} (o : Out K r H res P E) (f : ∀ a r1 h1 H1, Go r H r1 H1 → Rel K r1 h1 H1 → P a r1 h1 H1 → P' a r1 h1 H1) : Out K r H res P' E := by
  cases res with
  | ok a h => exact fun r2 H2 g2 R2 => f a r2 h H2 g2 R2 (o r2 H2 g2 R2)
  | exc c fl v h => exact o
  | bad => exact o
theorem Out.split {m : M α} {f : α → M β} {h : AH} {P : β → Rg → AH → Hp → Prop} (o : Out K r H (bnd m f h) P E) : Out K r H (m h) (fun a r1 h1 H1 => Out K r1 H1 (f a h1) P E) E := by
  unfold bnd at o
  cases q : m h with
  | ok a h1 => rw [q] at o; exact fun r1 H1 g1 R1 => o.base g1
  | exc c fl v h1 => rw [q] at o; exact o
  | bad => rw [q] at o; exact o
theorem Out.lft {f : AH → Option α} {h : AH} {P : α → Rg → AH → Hp → Prop} (o : Out K r H (Mr.lft f h) P E) : ∃ a, f h = some a ∧ ∀ r' H', Go r H r' H' → Rel K r' h H' → P a r' h H' := by
  unfold Mr.lft at o
  cases q : f h with
  | some a => rw [q] at o; exact ⟨a, rfl, o⟩
  | none => rw [q] at o; exact o.elim
theorem Out.now {a : α} {h : AH} {P : α → Rg → AH → Hp → Prop} (o : Out K r H (.ok a h) P E) (R : Rel K r h H) : P a r h H := o r H (Go.refl r H) R
end
/-! ### by value -/
mutual
def plain : Val → Bool
  | .ref _ => false
  | .tup xs => plains xs
  | _ => true
def plains : List Val → Bool
  | [] => true
  | x :: xs => plain x && plains xs
end
mutual
theorem RV.low {K : KK} : ∀ {r : Rg} {H : Hp} {x : Val} {u : V}, RV K r H x u → plain x = true → RV K r.lo H x u
  | _, _, _, _, .non, _ => .non
  | _, _, _, _, .bl b, _ => .bl b
  | _, _, _, _, .int i, _ => .int i
  | _, _, _, _, .str x, _ => .str x
  | _, _, _, _, .tup s t, p => .tup s (RVs.low t (by simpa [plain] using p))
  | _, _, _, _, .ref e, p => by simp [plain] at p
  | _, _, _, _, .fl z e t, _ => .fl z e t
  | _, _, _, _, .sl s t, _ => .sl s t
  | _, _, _, _, .fd z e l t, _ => .fd z e l t
  | _, _, _, _, .ft z e l t, _ => .ft z e l t
  | _, _, _, _, .ob z c e l t, _ => .ob z c e l t
  | _, _, _, _, .ex e k q, _ => .ex e k q
theorem RVs.low {K : KK} : ∀ {r : Rg} {H : Hp} {xs : List Val} {us : List V}, RVs K r H xs us → plains xs = true → RVs K r.lo H xs us
  | _, _, _, _, .nil, _ => .nil
  | _, _, _, _, .cons a b, p => .cons (RV.low a (by simp [plains] at p; exact p.1)) (RVs.low b (by simp [plains] at p; exact p.2))
end
def frzW (f : Val → AH → Option (Val × AH)) : List Val → AH → Option (List Val × AH)
  | [], h => some ([], h)
  | x :: xs, h => match f x h with
    | some (y, h1) => (match frzW f xs h1 with
      | some (ys, h2) => some (y :: ys, h2)
      | none => none)
    | none => none
def frzs (f : Val → AH → Option (Val × AH)) (xs : List Val) (h : AH) : Option (List Val × AH) := if plains xs then some (xs, h) else frzW f xs h
def frz : Nat → Val → AH → Option (Val × AH)
  | 0 => fun v h => if plain v then some (v, h) else none
  | n + 1 => fun v h => match v with
    | .ref k => (match h[k]? with
      | some (.lst xs) => (frzs (frz n) xs h).map fun z => (.fl z.1, z.2.set k (.fz (.fl z.1)))
      | some (.dk ks xs) => (frzs (frz n) xs h).map fun z => (.fd ks z.1, z.2.set k (.fz (.fd ks z.1)))
      | some (.dt ks xs) => (frzs (frz n) xs h).map fun z => (.ft ks z.1, z.2.set k (.fz (.ft ks z.1)))
      | some (.ob c ns xs) => (frzs (frz n) xs h).map fun z => (.ob c ns z.1, z.2.set k (.fz (.ob c ns z.1)))
      | some (.fz v) => some (v, h)
      | none => none)
    | .tup xs => (frzs (frz n) xs h).map fun z => (.tup z.1, z.2)
    | v => some (v, h)
section
variable {K : KK} {r : Rg} {H : Hp} {h : AH}
theorem go_ice {p : Addr} (hp : p ∈ r.m) : Go r H (r.ice p) H := ⟨vo_ice, fun _ _ e _ => e, fun _ e => .inl e, fun a z => z.elim .inl fun y => .inr (.inl (by rw [y]; exact hp))⟩
theorem Rel.at (R : Rel K r h H) {n : Nat} {o : AO} (e : h[n]? = some o) : ∃ a, r.m[n]? = some a ∧ RO K r H a o := by
  have hn : n < r.m.length := by rw [R.len]; exact (List.getElem?_eq_some_iff.mp e).1
  exact ⟨r.m[n], List.getElem?_eq_getElem hn, R.ob n _ o (List.getElem?_eq_getElem hn) e⟩
/-- v has become v', by value -/
def FzOk (K : KK) (H : Hp) (r : Rg) (h' : AH) (P : Rg → Prop) : Prop := ∃ r' : Rg, r'.m = r.m ∧ Go r H r' H ∧ Rel K r' h' H ∧ P r'
theorem frzW_ok {f : Val → AH → Option (Val × AH)} (ih : ∀ v h v' h' r u, Rel K r h H → RV K r H v u → f v h = some (v', h') → FzOk K H r h' fun r' => RV K r'.lo H v' u) :
    ∀ (xs : List Val) (h : AH) (ys : List Val) (h' : AH) (r : Rg) (us : List V), Rel K r h H → RVs K r H xs us → frzW f xs h = some (ys, h') → FzOk K H r h' fun r' => RVs K r'.lo H ys us
  | [], h, ys, h', r, us, R, q, e => by
    cases q
    cases e
    exact ⟨r, rfl, Go.refl r H, R, .nil⟩
  | x :: xs, h, ys, h', r, us, R, q, e => by
    cases q with
    | cons a b =>
      unfold frzW at e
      cases e1 : f x h with
      | none => rw [e1] at e; cases e
      | some z =>
        obtain ⟨y, h1⟩ := z
        rw [e1] at e
        dsimp only at e
        cases e2 : frzW f xs h1 with
        | none => rw [e2] at e; cases e
        | some z =>
          obtain ⟨ys', h2⟩ := z
          rw [e2] at e
          cases e
          obtain ⟨r1, m1, g1, R1, q1⟩ := ih x h y h1 r _ R a e1
          obtain ⟨r2, m2, g2, R2, q2⟩ := frzW_ok ih xs h1 ys' h' r1 _ R1 (b.go g1) e2
          exact ⟨r2, m2.trans m1, g1.trans g2, R2, .cons (RV.vo g2.toVo.lo q1) q2⟩
theorem frzs_ok {f : Val → AH → Option (Val × AH)} (ih : ∀ v h v' h' r u, Rel K r h H → RV K r H v u → f v h = some (v', h') → FzOk K H r h' fun r' => RV K r'.lo H v' u)
    {xs : List Val} {h : AH} {ys : List Val} {h' : AH} {r : Rg} {us : List V} (R : Rel K r h H) (q : RVs K r H xs us) (e : frzs f xs h = some (ys, h')) : FzOk K H r h' fun r' => RVs K r'.lo H ys us := by
  unfold frzs at e
  split at e
  · rename_i hp
    cases e
    exact ⟨r, rfl, Go.refl r H, R, q.low hp⟩
  · exact frzW_ok ih xs h ys h' r us R q e
theorem frz_ok : ∀ (n : Nat) (v : Val) (h : AH) (v' : Val) (h' : AH) (r : Rg) (u : V), Rel K r h H → RV K r H v u → frz n v h = some (v', h') → FzOk K H r h' fun r' => RV K r'.lo H v' u := by
  intro n
  induction n with
  | zero =>
    intro v h v' h' r u R q e
    unfold frz at e
    try dsimp only at e
    split at e
    · rename_i hp
      cases e
      exact ⟨r, rfl, Go.refl r H, R, q.low hp⟩
    · cases e
  | succ n ih =>
    intro v h v' h' r u R q e
    unfold frz at e
    try dsimp only at e
    have fin : ∀ {r1 : Rg} {h1 : AH} {k : Nat} {a : Addr} {w : Val}, r1.m = r.m → Go r H r1 H → Rel K r1 h1 H → r.m[k]? = some a → RV K (r1.ice a).lo H w (.ref a) → FzOk K H r (h1.set k (.fz w)) fun r' => RV K r'.lo H w (.ref a) := fun {r1 h1 k a w} m1 g1 R1 ek qw =>
      ⟨r1.ice a, m1, g1.trans (go_ice (by rw [m1]; exact List.mem_of_getElem? ek)), R1.freeze (by rw [m1]; exact ek) qw, qw⟩
    cases q with
    | @ref _ _ k a ek =>
      dsimp only at e
      cases e1 : h[k]? with
      | none => rw [e1] at e; cases e
      | some o =>
        rw [e1] at e
        have ro := R.ob k a o ek e1
        cases o with
        | lst xs =>
          dsimp only at e
          cases e2 : frzs (frz n) xs h with
          | none => rw [e2] at e; cases e
          | some z =>
            rw [e2] at e
            cases e
            obtain ⟨us, hu, qs⟩ := ro
            obtain ⟨r1, m1, g1, R1, q1⟩ := frzs_ok ih R qs e2
            exact fin m1 g1 R1 ek (.fl (.inr rfl) hu (RVs.vo (vo_ice (r := r1.lo)) q1))
        | dk ks xs =>
          dsimp only at e
          cases e2 : frzs (frz n) xs h with
          | none => rw [e2] at e; cases e
          | some z =>
            rw [e2] at e
            cases e
            obtain ⟨us, hu, hl, qs⟩ := ro
            obtain ⟨r1, m1, g1, R1, q1⟩ := frzs_ok ih R qs e2
            exact fin m1 g1 R1 ek (.fd (.inr rfl) hu hl (RVs.vo (vo_ice (r := r1.lo)) q1))
        | dt ks xs =>
          dsimp only at e
          cases e2 : frzs (frz n) xs h with
          | none => rw [e2] at e; cases e
          | some z =>
            rw [e2] at e
            cases e
            obtain ⟨us, hu, hl, qs⟩ := ro
            obtain ⟨r1, m1, g1, R1, q1⟩ := frzs_ok ih R qs e2
            exact fin m1 g1 R1 ek (.ft (.inr rfl) hu hl (RVs.vo (vo_ice (r := r1.lo)) q1))
        | ob c ns xs =>
          dsimp only at e
          cases e2 : frzs (frz n) xs h with
          | none => rw [e2] at e; cases e
          | some z =>
            rw [e2] at e
            cases e
            obtain ⟨us, C, dx, hc, hu, hl, qs⟩ := ro
            obtain ⟨r1, m1, g1, R1, q1⟩ := frzs_ok ih R qs e2
            exact fin m1 g1 R1 ek (.ob (.inr rfl) hc hu hl (RVs.vo (vo_ice (r := r1.lo)) q1))
        | fz v =>
          cases e
          exact ⟨r, rfl, Go.refl r H, R, ro⟩
    | tup s t =>
      dsimp only at e
      rename_i a us xs
      cases e2 : frzs (frz n) xs h with
      | none => rw [e2] at e; cases e
      | some z =>
        rw [e2] at e
        cases e
        obtain ⟨r1, m1, g1, R1, q1⟩ := frzs_ok ih R t e2
        exact ⟨r1, m1, g1, R1, .tup s q1⟩
    | non => cases e; exact ⟨r, rfl, Go.refl r H, R, .non⟩
    | bl b => cases e; exact ⟨r, rfl, Go.refl r H, R, .bl b⟩
    | int b => cases e; exact ⟨r, rfl, Go.refl r H, R, .int b⟩
    | str b => cases e; exact ⟨r, rfl, Go.refl r H, R, .str b⟩
    | fl z y t => cases e; exact ⟨r, rfl, Go.refl r H, R, .fl z y t⟩
    | sl s t => cases e; exact ⟨r, rfl, Go.refl r H, R, .sl s t⟩
    | fd a b c d => cases e; exact ⟨r, rfl, Go.refl r H, R, .fd a b c d⟩
    | ft a b c d => cases e; exact ⟨r, rfl, Go.refl r H, R, .ft a b c d⟩
    | ob a b c d f => cases e; exact ⟨r, rfl, Go.refl r H, R, .ob a b c d f⟩
    | ex a b c => cases e; exact ⟨r, rfl, Go.refl r H, R, .ex a b c⟩
/-- v, by value -/
def fzV (v : Val) : M Val := fun h => match frz 8 v h with
  | some (w, h') => .ok w h'
  | none => .bad
def fzL (xs : List Val) : M (List Val) := fun h => match frzs (frz 8) xs h with
  | some (w, h') => .ok w h'
  | none => .bad
theorem fzL_ok {xs ys : List Val} {h' : AH} {us : List V} (R : Rel K r h H) (q : RVs K r H xs us) (e : frzs (frz 8) xs h = some (ys, h')) : FzOk K H r h' fun r' => RVs K r'.lo H ys us := frzs_ok (frz_ok 8) R q e
end
/-! ### new lists -/
inductive NV where
  | v (x : Val) | n (xs : List Val)
abbrev MN := Sl → M NV
def NV.F : NV → M Val
  | .v x => ret x
  | .n xs => bnd (fzL xs) fun ys => ret (.fl ys)
def NV.T : NV → M Val
  | .v x => ret x
  | .n xs => fun h => .ok (.ref h.length) (h ++ [.lst xs])
def mF (m : MN) : ME := fun sl => bnd (m sl) NV.F
def mT (m : MN) : ME := fun sl => bnd (m sl) NV.T
def mV (m : ME) : MN := fun sl => bnd (m sl) fun x => ret (.v x)
/-- what is wanted of such a value; H: ahead of it -/
def NK (K : KK) (H : Hp) (Q : VK) (z : NV) (r' : Rg) (H' : Hp) : Prop := match z with
  | .v x => ∀ u, RV K r' H' x u → Q u H'
  | .n xs => ∀ a us, H a = none → H' a = some (.lst us) → a ∉ r'.m → ¬ r'.fz a → RVs K r' H' xs us → Q (.ref a) H'
section
variable {K : KK} {r r' : Rg} {H H' : Hp} {h : AH} {E : XK} {Q : VK}
theorem Go.none (g : Go r H r' H') (R : Rel K r' h H') {a : Addr} (n : H' a = none) : H a = none := by
  cases q : H a with
  | none => rfl
  | some o =>
    by_cases hm : a ∈ r.m
    · obtain ⟨u, e⟩ := R.md a (g.sub hm)
      rw [e] at n; cases n
    · rw [g.fr a o q hm] at n; cases n
theorem go_iceN {p : Addr} (g : Go r H r' H') (n : H p = none) : Go r H (r'.ice p) H' :=
  ⟨g.toVo.trans vo_ice, g.fr, g.nw, fun a z => z.elim (g.fn a) fun y => .inr (.inr (by rw [y]; exact n))⟩
theorem go_addN {p : Addr} (g : Go r H r' H') (n : H p = none) : Go r H (r'.add p) H' :=
  ⟨g.toVo.trans vo_add, g.fr, fun a z => (List.mem_append.mp z).elim (g.nw a) fun y => .inr (by rw [List.mem_singleton.mp y]; exact n), g.fn⟩
theorem NK.ofF {z : NV} (g : Go r H r' H') (R : Rel K r' h H') (o : Out K r H (NV.F z h) (fun v r1 h1 H1 => ∀ u, RV K r1 H1 v u → Q u H1) E) : NK K H Q z r' H' := by
  cases z with
  | v x => exact o r' H' g R
  | n xs =>
    intro a us na ha n1 n2 q
    unfold NV.F bnd fzL at o
    dsimp only at o
    cases e : frzs (frz 8) xs h with
    | none => rw [e] at o; exact o.elim
    | some z =>
      obtain ⟨ys, h2⟩ := z
      rw [e] at o
      obtain ⟨r2, m2, g2, R2, q2⟩ := fzL_ok R q e
      exact o (r2.ice a) H' (go_iceN (g.trans g2) na) (R2.ice (by rw [m2]; exact n1) ⟨_, ha⟩) _ (.fl (.inr rfl) ha (RVs.vo (vo_ice (r := r2.lo)) q2))
theorem NK.ofT {z : NV} (g : Go r H r' H') (R : Rel K r' h H') (o : Out K r H (NV.T z h) (fun v r1 h1 H1 => ∀ u, RV K r1 H1 v u → Q u H1) E) : NK K H Q z r' H' := by
  cases z with
  | v x => exact o r' H' g R
  | n xs =>
    intro a us na ha n1 n2 q
    refine o (r'.add a) H' (go_addN g na) (R.add n1 n2 ⟨us, ha, q.vo vo_add⟩ ⟨_, ha⟩) _ (.ref ?_)
    rw [← R.len, List.getElem?_append_right (Nat.le_refl _), Nat.sub_self]
    rfl
/-- a new list at p -/
theorem NK.newL {xs : List Val} {us : List V} {p : Addr} (R : Rel K r h H) (np : H p = none) (q : RVs K r H xs us) (k : ∀ r' H', Go r H r' H' → Rel K r' h H' → NK K H Q (.n xs) r' H') : Q (.ref p) (upd H p (.lst us)) := by
  have g : Go r H r (upd H p (.lst us)) := go_new np
  refine k r _ g (R.newu np) p us np upd_same (fun z => ?_) (fun z => ?_) (q.go g)
  · obtain ⟨u, e⟩ := R.md p z
    rw [np] at e; cases e
  · obtain ⟨u, e⟩ := R.fd p z
    rw [np] at e; cases e
/-- a new tuple at p -/
theorem cn_tup {xs : List Val} {us : List V} {p : Addr} (R : Rel K r h H) (q : RVs K r H xs us) (k : ∀ r' H', Go r H r' H' → Rel K r' h H' → ∀ u, RV K r' H' (.tup xs) u → Q u H') (n : H p = none) : Q (.ref p) (upd H p (.tup us)) := by
  have g : Go r H r (upd H p (.tup us)) := go_new n
  exact k r _ g (R.newu n) _ (.tup (SqT.of upd_same) (q.go g))
end
/-! ### readings -/
section
variable (K : KK) (W : WX)
def tE (m : ME) : TE := fun σ H Q => ∃ r h sl, Rel K r h H ∧ RSl K r H sl σ ∧ Out K r H (m sl h) (fun v r' h' H' => ∀ u, RV K r' H' v u → Q u H') (fun cls d H' => W cls d σ H')
def tN (m : MN) : TE := fun σ H Q => ∃ r h sl, Rel K r h H ∧ RSl K r H sl σ ∧ Out K r H (m sl h) (fun z r' h' H' => NK K H Q z r' H') (fun cls d H' => W cls d σ H')
def tT (m : MT) : TT := fun σ H Q => ∃ r h sl, Rel K r h H ∧ RSl K r H sl σ ∧ Out K r H (m sl h) (fun b r' h' H' => Q b H') (fun cls d H' => W cls d σ H')
def tA (m : MA) : TA := fun σ H Q => ∃ r h sl, Rel K r h H ∧ RSl K r H sl σ ∧ Out K r H (m sl h) (fun vs r' h' H' => ∀ us, RVs K r' H' vs us → Q us H') (fun cls d H' => W cls d σ H')
def tO (m : MO) : TO := fun σ H Q => ∃ r h sl, Rel K r h H ∧ RSl K r H sl σ ∧ Out K r H (m sl h) (fun o r' h' H' => Q o H') (fun cls d H' => W cls d σ H')
end
theorem PE.imp {X : Cx} {e : Expr} {t t' : TE} (p : PE X e t) (h : ∀ s H Q, t' s H Q → t s H Q) : PE X e t' := ⟨fun pins s σ H Q I q => p.run pins s σ H Q I (h σ H Q q)⟩
theorem PT.imp {X : Cx} {e : Expr} {t t' : TT} (p : PT X e t) (h : ∀ s H Q, t' s H Q → t s H Q) : PT X e t' := ⟨fun pins s σ H Q I q => p.run pins s σ H Q I (h σ H Q q)⟩
theorem PW.imp {X : Cx} {e : Expr} {t t' : TT} (p : PW X e t) (h : ∀ s H Q, t' s H Q → t s H Q) : PW X e t' := ⟨fun wh pins s σ H Q I q => p.run wh pins s σ H Q I (h σ H Q q)⟩
theorem PA.imp {X : Cx} {es : List Expr} {t t' : TA} (p : PA X es t) (h : ∀ s H Q, t' s H Q → t s H Q) : PA X es t' := ⟨fun pos pins s σ H Q I q => p.run pos pins s σ H Q I (h σ H Q q)⟩
theorem PS.imp {X : Cx} {e : Stmt} {t t' : TS} (p : PS X e t) (h : ∀ D s H, t' D s H → t D s H) : PS X e t' := ⟨fun pins s σ H D I q => p.run pins s σ H D I (h D σ H q)⟩
theorem PSs.imp {X : Cx} {e : List Stmt} {t t' : TS} (p : PSs X e t) (h : ∀ D s H, t' D s H → t D s H) : PSs X e t' := ⟨fun pins s σ H D I q => p.run pins s σ H D I (h D σ H q)⟩
theorem PO.imp {X : Cx} {e : Option Expr} {t t' : TO} (p : PO X e t) (h : ∀ s H Q, t' s H Q → t s H Q) : PO X e t' := ⟨fun pins s σ H Q I q => p.run pins s σ H Q I (h σ H Q q)⟩
abbrev SE (X : Cx) (W : WX) (e : Expr) (m : ME) : Prop := PE X e (tE X.kk W m)
abbrev SN (X : Cx) (W : WX) (e : Expr) (m : MN) : Prop := PE X e (tN X.kk W m)
abbrev ST (X : Cx) (W : WX) (e : Expr) (m : MT) : Prop := PT X e (tT X.kk W m)
abbrev SW (X : Cx) (W : WX) (e : Expr) (m : MT) : Prop := PW X e (tT X.kk W m)
abbrev SA (X : Cx) (W : WX) (es : List Expr) (m : MA) : Prop := PA X es (tA X.kk W m)
abbrev SO (X : Cx) (W : WX) (e : Option Expr) (m : MO) : Prop := PO X e (tO X.kk W m)
section
variable {X : Cx} {W : WX} {e : Expr} {K : KK} {s : L2.St} {H : Hp} {Q : VK}
theorem mF_run {m : MN} (z : tE K W (mF m) s H Q) : tN K W m s H Q := by
  obtain ⟨r, h, sl, R, S, o⟩ := z
  refine ⟨r, h, sl, R, S, ?_⟩
  unfold mF bnd at o
  cases q : m sl h with
  | ok z h1 => rw [q] at o; exact fun r1 H1 g1 R1 => NK.ofF g1 R1 o
  | exc _ _ _ _ => rw [q] at o; exact o
  | bad => rw [q] at o; exact o
theorem mT_run {m : MN} (z : tE K W (mT m) s H Q) : tN K W m s H Q := by
  obtain ⟨r, h, sl, R, S, o⟩ := z
  refine ⟨r, h, sl, R, S, ?_⟩
  unfold mT bnd at o
  cases q : m sl h with
  | ok z h1 => rw [q] at o; exact fun r1 H1 g1 R1 => NK.ofT g1 R1 o
  | exc _ _ _ _ => rw [q] at o; exact o
  | bad => rw [q] at o; exact o
theorem se_F {m : MN} (h : SN X W e m) : SE X W e (mF m) := PE.imp h fun _ _ _ z => mF_run z
theorem se_T {m : MN} (h : SN X W e m) : SE X W e (mT m) := PE.imp h fun _ _ _ z => mT_run z
/-! ### names, constants, operators -/
def mVar (i : Nat) : ME := fun sl => match sl[i]? with
  | some (some v) => ret v
  | _ => fail
def mC (v : Val) : ME := fun _ => ret v
theorem se_var {i : Nat} {x : Str} {pos : Pos} (hN : X.N[i]? = some x := by rfl) (hv : Vis X.env.scope x := by first | exact Or.inl rfl | exact Or.inr (Or.inl rfl) | exact Or.inr (Or.inr rfl)) (hd : (x == ("__debug__" : Str)) = false := by decide)
    (hcd : (x == ("__classdict__" : Str)) = false := by decide) : SE X W (.Name x pos) (mVar i) := by
  refine PE.imp (pe_var (i := i) hN hv hd hcd) fun s H Q ⟨r, h, sl, R, S, o⟩ => ?_
  unfold mVar at o
  cases hw : sl[i]? with
  | none => rw [hw] at o; exact o.elim
  | some w =>
    rw [hw] at o
    cases w with
    | none => exact o.elim
    | some w =>
      obtain ⟨u, e1, q⟩ := S.2 i _ hw
      exact ⟨u, e1, o.now R u q⟩
theorem se_c {v : Val} {u : V} (p : PE X e (tC u)) (q : ∀ r H, RV X.kk r H v u) : SE X W e (mC v) :=
  PE.imp p fun s H Q ⟨r, h, sl, R, S, o⟩ => o.now R u (q r H)
theorem se_int {i : Int} {j pos} : SE X W (.Constant (.int i) j pos) (mC (.int i)) := se_c pe_int fun _ _ => .int i
theorem se_bl {b : Bool} {j pos} : SE X W (.Constant (.bool b) j pos) (mC (.bl b)) := se_c pe_bl fun _ _ => .bl b
theorem se_non {j pos} : SE X W (.Constant .none j pos) (mC .non) := se_c pe_non fun _ _ => .non
theorem se_str {x : Str} {j pos} : SE X W (.Constant (.str x) j pos) (mC (.str x)) := se_c pe_str fun _ _ => .str x
theorem se_gstr {x z : Str} {pos : Pos} (hm : ∃ t, X.mg x = some (.str z t)) (hg : Gl X x := by rfl) (hd : (x == ("__debug__" : Str)) = false := by decide) : SE X W (.Name x pos) (mC (.str z)) := by
  obtain ⟨t, hm⟩ := hm
  exact se_c (pe_glob (v := .str z) hg hm ⟨t, rfl⟩ hd) fun _ _ => .str z
theorem se_gint {x : Str} {z : Int} {pos : Pos} (hm : ∃ t, X.mg x = some (.int z t)) (hg : Gl X x := by rfl) (hd : (x == ("__debug__" : Str)) = false := by decide) : SE X W (.Name x pos) (mC (.int z)) := by
  obtain ⟨t, hm⟩ := hm
  exact se_c (pe_glob (v := .int z) hg hm ⟨t, rfl⟩ hd) fun _ _ => .int z
/-- operations by values, mirrored -/
def OpM (K : KK) (q : R2) (o : Val → Val → AH → Option Val) : Prop := ∀ (r : Rg) (h : AH) (H : Hp) (x y : Val) (u w : V) (z : Val) (Q : VK), Rel K r h H → RV K r H x u → RV K r H y w → o x y h = some z → (∀ r' H', Go r H r' H' → Rel K r' h H' → ∀ v, RV K r' H' z v → Q v H') → q u w H Q
def OpN (K : KK) (q : R2) (o : Val → Val → AH → Option NV) : Prop := ∀ (r : Rg) (h : AH) (H : Hp) (x y : Val) (u w : V) (z : NV) (Q : VK), Rel K r h H → RV K r H x u → RV K r H y w → o x y h = some z → (∀ r' H', Go r H r' H' → Rel K r' h H' → NK K H Q z r' H') → q u w H Q
def UnM (K : KK) (q : V → Hp → VK → Prop) (o : Val → AH → Option Val) : Prop := ∀ (r : Rg) (h : AH) (H : Hp) (x : Val) (u : V) (z : Val) (Q : VK), Rel K r h H → RV K r H x u → o x h = some z → (∀ r' H', Go r H r' H' → Rel K r' h H' → ∀ v, RV K r' H' z v → Q v H') → q u H Q
def CaM (K : KK) (q : List V → Hp → VK → Prop) (o : List Val → AH → Option Val) : Prop := ∀ (r : Rg) (h : AH) (H : Hp) (xs : List Val) (us : List V) (z : Val) (Q : VK), Rel K r h H → RVs K r H xs us → o xs h = some z → (∀ r' H', Go r H r' H' → Rel K r' h H' → ∀ v, RV K r' H' z v → Q v H') → q us H Q
def CaN (K : KK) (q : List V → Hp → VK → Prop) (o : List Val → AH → Option NV) : Prop := ∀ (r : Rg) (h : AH) (H : Hp) (xs : List Val) (us : List V) (z : NV) (Q : VK), Rel K r h H → RVs K r H xs us → o xs h = some z → (∀ r' H', Go r H r' H' → Rel K r' h H' → NK K H Q z r' H') → q us H Q
theorem now {K : KK} {r : Rg} {h : AH} {H : Hp} {z : Val} {v : V} {Q : VK} (k : ∀ r' H', Go r H r' H' → Rel K r' h H' → ∀ v, RV K r' H' z v → Q v H') (R : Rel K r h H) (q : RV K r H z v) : Q v H := k r H (Go.refl r H) R v q
theorem nowV {K : KK} {r : Rg} {h : AH} {H : Hp} {z : Val} {v : V} {Q : VK} (k : ∀ r' H', Go r H r' H' → Rel K r' h H' → NK K H Q (.v z) r' H') (R : Rel K r h H) (q : RV K r H z v) : Q v H := k r H (Go.refl r H) R v q
theorem OpM.n {q : R2} {o : Val → Val → AH → Option Val} (p : OpM K q o) : OpN K q (fun x y h => (o x y h).map NV.v) := fun r h H x y u w z Q R qx qy e k => by
  dsimp only at e
  cases e1 : o x y h with
  | none => rw [e1] at e; cases e
  | some z' =>
    rw [e1] at e
    cases e
    exact p r h H x y u w z' Q R qx qy e1 k
variable {a b : Expr} {ma mb : ME} {pos : Pos}
def mOp (o : Val → Val → AH → Option Val) (a b : ME) : ME := fun sl => bnd (a sl) fun x => bnd (b sl) fun y => lft (o x y)
def mOpN (o : Val → Val → AH → Option NV) (a b : ME) : MN := fun sl => bnd (a sl) fun x => bnd (b sl) fun y => lft (o x y)
def mUn (o : Val → AH → Option Val) (a : ME) : ME := fun sl => bnd (a sl) fun x => lft (o x)
theorem opm_run {q : R2} {o : Val → Val → AH → Option Val} (ho : OpM K q o) {σ : L2.St} (z : tE K W (mOp o ma mb) σ H Q) : tOp q (tE K W ma) (tE K W mb) σ H Q := by
  obtain ⟨r, h, sl, R, S, o1⟩ := z
  refine ⟨r, h, sl, R, S, o1.split.mono fun x r1 h1 H1 g1 R1 o2 u q1 => ⟨r1, h1, sl, R1, S.go g1, o2.split.mono fun y r2 h2 H2 g2 R2 o3 w q2 => ?_⟩⟩
  obtain ⟨v, e, k⟩ := o3.lft
  exact ho r2 h2 H2 x y u w v Q R2 (q1.go g2) q2 e k
theorem opn_run {q : R2} {o : Val → Val → AH → Option NV} (ho : OpN K q o) {σ : L2.St} (z : tN K W (mOpN o ma mb) σ H Q) : tOp q (tE K W ma) (tE K W mb) σ H Q := by
  obtain ⟨r, h, sl, R, S, o1⟩ := z
  refine ⟨r, h, sl, R, S, o1.split.mono fun x r1 h1 H1 g1 R1 o2 u q1 => ⟨r1, h1, sl, R1, S.go g1, o2.split.mono fun y r2 h2 H2 g2 R2 o3 w q2 => ?_⟩⟩
  obtain ⟨v, e, k⟩ := o3.lft
  refine ho r2 h2 H2 x y u w v Q R2 (q1.go g2) q2 e fun r3 H3 g3 R3 => ?_
  have k1 := k r3 H3 g3 R3
  cases v with
  | v x => exact k1
  | n xs => exact fun a us na => k1 a us ((g1.trans g2).none R2 na)
theorem se_op {op : Operator} {q : R2} {o : Val → Val → AH → Option Val} (hp : OpR X (binaryOp op) q) (ho : OpM X.kk q o) (ha : SE X W a ma) (hb : SE X W b mb) : SE X W (.BinOp a op b pos) (mOp o ma mb) :=
  PE.imp (pe_op hp ha hb) fun _ _ _ z => opm_run ho z
theorem sn_op {op : Operator} {q : R2} {o : Val → Val → AH → Option NV} (hp : OpR X (binaryOp op) q) (ho : OpN X.kk q o) (ha : SE X W a ma) (hb : SE X W b mb) : SN X W (.BinOp a op b pos) (mOpN o ma mb) :=
  PE.imp (pe_op hp ha hb) fun _ _ _ z => opn_run ho z
theorem se_un {op : UnaryOp} {q : V → Hp → VK → Prop} {o : Val → AH → Option Val} (hp : UnR X (unaryOp op) q) (ho : UnM X.kk q o) (ha : SE X W a ma) : SE X W (.UnaryOp op a pos) (mUn o ma) :=
  PE.imp (pe_un hp ha) fun σ H Q ⟨r, h, sl, R, S, o1⟩ => by
    refine ⟨r, h, sl, R, S, o1.split.mono fun x r1 h1 H1 g1 R1 o2 u q1 => ?_⟩
    obtain ⟨v, e, k⟩ := o2.lft
    exact ho r1 h1 H1 x u v Q R1 q1 e k
theorem se_cmp {op : CmpOp} {q : R2} {o : Val → Val → AH → Option Val} (hp : OpR X (compareOp op) q) (ho : OpM X.kk q o) (ha : SE X W a ma) (hb : SE X W b mb) (hm : behindInMarks op b = false) : SE X W (.Compare a [op] [b] pos) (mOp o ma mb) :=
  PE.imp (pe_cmpR hp ha hb hm) fun _ _ _ z => opm_run ho z
/-- the truth of a bool -/
def tst : Val → Option Bool
  | .bl b => some b
  | _ => none
def mTest (m : ME) : MT := fun sl => bnd (m sl) fun v => lft fun _ => tst v
theorem mTest_run {m : ME} {σ : L2.St} {Q : Bool → Hp → Prop} (z : tT K W (mTest m) σ H Q) : tE K W m σ H fun x H' => ∃ k, x = .bl k ∧ Q k H' := by
  obtain ⟨r, h, sl, R, S, o1⟩ := z
  refine ⟨r, h, sl, R, S, o1.split.mono fun x r1 h1 H1 g1 R1 o2 u q1 => ?_⟩
  obtain ⟨b, e, k⟩ := o2.lft
  cases x with
  | bl c =>
    cases e
    cases q1
    exact ⟨_, rfl, k r1 H1 (Go.refl _ _) R1⟩
  | _ => cases e
theorem st_val {m : ME} (h : SE X W e m) (he : ∀ whole, isTrue e X.env whole = (do let v ← whole; standAt e.pos; holding [v] (truthy v)) := by intro _; rfl) : ST X W e (mTest m) :=
  PT.imp (pt_val h he) fun _ _ _ z => mTest_run z
theorem st_cmp {op : CmpOp} {q : R2} {o : Val → Val → AH → Option Val} (hp : OpR X (compareOp op) q) (ho : OpM X.kk q o) (ha : SE X W a ma) (hb : SE X W b mb) (hm : behindInMarks op b = false) : ST X W (.Compare a [op] [b] pos) (mTest (mOp o ma mb)) :=
  PT.imp (pt_cmpR hp ha hb hm) fun s H Q z => opm_run ho (mTest_run z)
/-! and, or, not -/
variable {ta tb : MT} {rest : List Expr}
def mAnd (t u : MT) : MT := fun sl => bnd (t sl) fun c => if c = true then u sl else ret false
def mOr (t u : MT) : MT := fun sl => bnd (t sl) fun c => if c = true then ret true else u sl
def mNot (t : MT) : MT := fun sl => bnd (t sl) fun c => ret (!c)
theorem mAnd_run {σ : L2.St} {Q : Bool → Hp → Prop} (z : tT K W (mAnd ta tb) σ H Q) : tAnd (tT K W ta) (tT K W tb) σ H Q := by
  obtain ⟨r, h, sl, R, S, o1⟩ := z
  refine ⟨r, h, sl, R, S, o1.split.mono fun c r1 h1 H1 g1 R1 o2 => ?_⟩
  cases c with
  | true => exact iteT ⟨r1, h1, sl, R1, S.go g1, o2⟩
  | false => exact iteF (o2.now R1)
theorem mOr_run {σ : L2.St} {Q : Bool → Hp → Prop} (z : tT K W (mOr ta tb) σ H Q) : tOr (tT K W ta) (tT K W tb) σ H Q := by
  obtain ⟨r, h, sl, R, S, o1⟩ := z
  refine ⟨r, h, sl, R, S, o1.split.mono fun c r1 h1 H1 g1 R1 o2 => ?_⟩
  cases c with
  | false => exact iteF ⟨r1, h1, sl, R1, S.go g1, o2⟩
  | true => exact iteT (o2.now R1)
theorem sw_and1 (ha : ST X W a ta) : SW X W (.BoolOp .And [a] pos) ta := pw_and1 ha
theorem sw_or1 (ha : ST X W a ta) : SW X W (.BoolOp .Or [a] pos) ta := pw_or1 ha
theorem sw_and (ha : ST X W a ta) (hb : SW X W (.BoolOp .And (b :: rest) pos) tb) : SW X W (.BoolOp .And (a :: b :: rest) pos) (mAnd ta tb) := PW.imp (pw_and ha hb) fun _ _ _ z => mAnd_run z
theorem sw_or (ha : ST X W a ta) (hb : SW X W (.BoolOp .Or (b :: rest) pos) tb) : SW X W (.BoolOp .Or (a :: b :: rest) pos) (mOr ta tb) := PW.imp (pw_or ha hb) fun _ _ _ z => mOr_run z
theorem st_not (ha : ST X W a ta) : ST X W (.UnaryOp .Not a pos) (mNot ta) := PT.imp (pt_not ha) fun σ H Q ⟨r, h, sl, R, S, o1⟩ =>
  ⟨r, h, sl, R, S, o1.split.mono fun c r1 h1 H1 g1 R1 o2 => o2.now R1⟩
/-- as values (bools) -/
def mAndV (p q : ME) : ME := fun sl => bnd (p sl) fun v => match v with
  | .bl true => q sl
  | .bl false => ret (.bl false)
  | _ => fail
def mOrV (p q : ME) : ME := fun sl => bnd (p sl) fun v => match v with
  | .bl true => ret (.bl true)
  | .bl false => q sl
  | _ => fail
def mNotV (p : ME) : ME := fun sl => bnd (p sl) fun v => match v with
  | .bl b => ret (.bl (!b))
  | _ => fail
theorem se_one {op} {m : ME} (h : SE X W a m) : SE X W (.BoolOp op [a] pos) m := pe_one h
theorem se_and (ha : SE X W a ma) (hb : SE X W (.BoolOp .And (b :: rest) pos) mb) : SE X W (.BoolOp .And (a :: b :: rest) pos) (mAndV ma mb) := PE.imp (pe_and ha hb) fun s H Q ⟨r, h, sl, R, S, o1⟩ => by
  refine ⟨r, h, sl, R, S, o1.split.mono fun x r1 h1 H1 g1 R1 o2 u q1 => ?_⟩
  cases q1 with
  | bl c =>
    refine ⟨c, rfl, ?_⟩
    cases c with
    | true => exact iteT ⟨r1, h1, sl, R1, S.go g1, o2⟩
    | false => exact iteF (o2.now R1 _ (.bl false))
  | _ => exact o2.elim
theorem se_or (ha : SE X W a ma) (hb : SE X W (.BoolOp .Or (b :: rest) pos) mb) : SE X W (.BoolOp .Or (a :: b :: rest) pos) (mOrV ma mb) := PE.imp (pe_or ha hb) fun s H Q ⟨r, h, sl, R, S, o1⟩ => by
  refine ⟨r, h, sl, R, S, o1.split.mono fun x r1 h1 H1 g1 R1 o2 u q1 => ?_⟩
  cases q1 with
  | bl c =>
    refine ⟨c, rfl, ?_⟩
    cases c with
    | false => exact iteF ⟨r1, h1, sl, R1, S.go g1, o2⟩
    | true => exact iteT (o2.now R1 _ (.bl true))
  | _ => exact o2.elim
theorem se_not (ha : SE X W a ma) : SE X W (.UnaryOp .Not a pos) (mNotV ma) := PE.imp (pe_not ha) fun s H Q ⟨r, h, sl, R, S, o1⟩ => by
  refine ⟨r, h, sl, R, S, o1.split.mono fun x r1 h1 H1 g1 R1 o2 u q1 => ?_⟩
  cases q1 with
  | bl c => exact ⟨c, rfl, o2.now R1 _ (.bl (!c))⟩
  | _ => exact o2.elim
def mIf (t : MT) (p q : ME) : ME := fun sl => bnd (t sl) fun c => if c = true then p sl else q sl
theorem se_if {c : Expr} (hc : ST X W c ta) (ha : SE X W a ma) (hb : SE X W b mb) : SE X W (.IfExp c a b pos) (mIf ta ma mb) := PE.imp (pe_ifExp hc ha hb) fun s H Q ⟨r, h, sl, R, S, o1⟩ => by
  refine ⟨r, h, sl, R, S, o1.split.mono fun c r1 h1 H1 g1 R1 o2 => ?_⟩
  cases c with
  | true => exact iteT ⟨r1, h1, sl, R1, S.go g1, o2⟩
  | false => exact iteF ⟨r1, h1, sl, R1, S.go g1, o2⟩
end
end Mr

set_option Elab.async false
set_option linter.all false
set_option maxRecDepth 100000
set_option maxHeartbeats 1000000
namespace Mr
open PySem PySem.Spec PyProof.Rows L2
/-! ### reading the heap -/
def lstAt (h : AH) (n : Nat) : Option (List Val) := match h[n]? with
  | some (.lst xs) => some xs
  | some (.fz (.fl xs)) => some xs
  | _ => none
def mutAt (h : AH) (n : Nat) : Option (List Val) := match h[n]? with
  | some (.lst xs) => some xs
  | _ => none
/-- a list's items; those of one that was made by the program -/
def lsV (h : AH) : Val → Option (List Val)
  | .fl xs => some xs
  | .sl xs => some xs
  | .ref n => lstAt h n
  | _ => none
def lmV (h : AH) : Val → Option (List Val)
  | .fl xs => some xs
  | .ref n => lstAt h n
  | _ => none
def seqOf (h : AH) : Val → Option (List Val)
  | .tup xs => some xs
  | .fl xs => some xs
  | .sl xs => some xs
  | .ref n => lstAt h n
  | _ => none
section
variable {K : KK} {r : Rg} {h : AH} {H : Hp}
theorem fzl_sq {a : Addr} {us : List V} (e : FzL K H a us) : SqL K H a us := by
  rcases e with ⟨o, e⟩ | e
  · exact .inl (.inr ⟨o, e⟩)
  · exact .inr e
theorem Rel.lstAt (R : Rel K r h H) {n : Nat} {a : Addr} {xs : List Val} (e : lstAt h n = some xs) (ea : r.m[n]? = some a) : ∃ us, H a = some (.lst us) ∧ RVs K r H xs us := by
  unfold Mr.lstAt at e
  split at e
  · rename_i ys q
    cases e
    obtain ⟨us, e1, e2⟩ := R.ob n a _ ea q
    exact ⟨us, e1, e2⟩
  · rename_i ys q
    cases e
    have q2 : RV K r.lo H (.fl xs) (.ref a) := R.ob n a _ ea q
    cases q2 with
    | fl z e1 e2 => exact ⟨_, e1, RVs.up e2⟩
  · cases e
theorem Rel.lm (R : Rel K r h H) {v : Val} {u : V} {xs : List Val} (q : RV K r H v u) (e : lmV h v = some xs) : ∃ a us, u = .ref a ∧ H a = some (.lst us) ∧ RVs K r H xs us := by
  cases q with
  | ref ea =>
    obtain ⟨us, s, t⟩ := R.lstAt e ea
    exact ⟨_, us, rfl, s, t⟩
  | fl z e1 e2 => cases e; exact ⟨_, _, rfl, e1, RVs.up e2⟩
  | _ => cases e
theorem Rel.lst (R : Rel K r h H) {v : Val} {u : V} {xs : List Val} (q : RV K r H v u) (e : lsV h v = some xs) : ∃ a us, u = .ref a ∧ SqL K H a us ∧ RVs K r H xs us := by
  cases q with
  | ref ea =>
    obtain ⟨us, s, t⟩ := R.lstAt e ea
    exact ⟨_, us, rfl, SqL.of s, t⟩
  | fl z e1 e2 => cases e; exact ⟨_, _, rfl, SqL.of e1, RVs.up e2⟩
  | sl z e2 => cases e; exact ⟨_, _, rfl, fzl_sq z, RVs.up e2⟩
  | _ => cases e
theorem Rel.mut (R : Rel K r h H) {n : Nat} {a : Addr} {xs : List Val} (e : mutAt h n = some xs) (ea : r.m[n]? = some a) : h[n]? = some (.lst xs) ∧ ∃ us, H a = some (.lst us) ∧ RVs K r H xs us := by
  unfold mutAt at e
  split at e
  · rename_i ys q
    cases e
    exact ⟨q, R.ob n a _ ea q⟩
  · cases e
theorem Rel.seq (R : Rel K r h H) {y : Val} {w : V} {xs : List Val} (q : RV K r H y w) (e : seqOf h y = some xs) : ∃ p us, w = .ref p ∧ (SqL K H p us ∨ SqT K H p us) ∧ RVs K r H xs us := by
  cases q with
  | tup s t => cases e; exact ⟨_, _, rfl, .inr s, t⟩
  | ref ea =>
    obtain ⟨us, s, t⟩ := R.lstAt e ea
    exact ⟨_, us, rfl, .inl (SqL.of s), t⟩
  | fl z e1 e2 => cases e; exact ⟨_, _, rfl, .inl (SqL.of e1), RVs.up e2⟩
  | sl z e2 => cases e; exact ⟨_, _, rfl, .inl (fzl_sq z), RVs.up e2⟩
  | _ => cases e
/-- a list is changed -/
theorem cn_set {xs ys : List Val} {us ws : List V} {Q : Hp → Prop} {n : Nat} {a : Addr} (R : Rel K r h H) (ea : r.m[n]? = some a) (e : h[n]? = some (.lst xs)) (eH : H a = some (.lst us)) (q : RVs K r H ys ws)
    (k : ∀ H', Go r H r H' → Rel K r (h.set n (.lst ys)) H' → Q H') : Q (upd H a (.lst ws)) := by
  have g : Go r H r (upd H a (.lst ws)) := go_set R ea e rfl eH trivial
  exact k _ g (R.set ea e rfl eH trivial ⟨ws, upd_same, q.go g⟩)
end
def sizeOk (n : Nat) : Bool := decide (n ≤ 16777216)
theorem sizeOk_le {n : Nat} (h : sizeOk n = true) : n ≤ sizeLine := by rw [sizeLine_eq]; exact of_decide_eq_true h
theorem RVs.sizeL {K : KK} {r : Rg} {H : Hp} {xs : List Val} {us : List V} (q : RVs K r H xs us) (h : sizeOk xs.length = true) : us.length ≤ sizeLine := by rw [q.length]; exact sizeOk_le h
/-! ### arithmetic -/
/-- + : ints, texts, tuples; two lists -/
def oAdd (x y : Val) (h : AH) : Option NV := match x, y with
  | .int i, .int j => some (.v (.int (i + j)))
  | .int i, .bl b => some (.v (.int (i + b2i b)))
  | .str x, .str y => if sizeOk (x.length + y.length) then some (.v (.str (x ++ y))) else none
  | .tup xs, .tup ys => if !xs.isEmpty && (!ys.isEmpty && sizeOk (xs.length + ys.length)) then some (.v (.tup (xs ++ ys))) else none
  | x, y => match lmV h x, lmV h y with
    | some xs, some ys => if sizeOk (xs.length + ys.length) then some (.n (xs ++ ys)) else none
    | _, _ => none
abbrev rAddA (K : KK) : R2 := fun x y H Q => ((((rI0 fun i j => .int (i + j)) x y H Q ∨ (∃ i k, x = .int i ∧ y = .bl k ∧ Q (.int (i + b2i k)) H)) ∨ (∃ i j, x = .str i ∧ y = .str j ∧ i.length + j.length ≤ sizeLine ∧ Q (.str (i ++ j)) H)) ∨ rCat x y H Q) ∨ rCatT K x y H Q
theorem op_addA {X : Cx} : OpR X (binaryOp .Add) (rAddA X.kk) := (((op_add.or op_add_ib).or op_add_str).or op_cat).or op_catT
theorem om_add {K : KK} : OpN K (rAddA K) oAdd := by
  intro r h H x y u w z Q R qx qy e k
  unfold oAdd at e
  split at e
  · cases e; cases qx; cases qy
    exact .inl (.inl (.inl (.inl ⟨_, _, rfl, rfl, nowV k R (.int _)⟩)))
  · cases e; cases qx; cases qy
    exact .inl (.inl (.inl (.inr ⟨_, _, rfl, rfl, nowV k R (.int _)⟩)))
  · cases qx; cases qy
    split at e
    · rename_i hs
      cases e
      exact .inl (.inl (.inr ⟨_, _, rfl, rfl, sizeOk_le hs, nowV k R (.str _)⟩))
    · cases e
  · cases qx with
    | @tup _ _ _ us _ s1 t1 => cases qy with
      | @tup _ _ _ ws _ s2 t2 =>
        split at e
        · rename_i hs
          cases e
          rw [Bool.and_eq_true, Bool.and_eq_true] at hs
          obtain ⟨h1, h2, h3⟩ := hs
          have n1 : us ≠ [] := fun z => by subst z; cases t1; cases h1
          have n2 : ws ≠ [] := fun z => by subst z; cases t2; cases h2
          exact .inr ⟨_, _, _, _, rfl, rfl, s1, s2, n1, by rw [t1.length, t2.length]; exact sizeOk_le h3, fun z => absurd z n2, fun _ p np => cn_tup R (t1.append t2) k np⟩
        · cases e
  · split at e
    · rename_i xs ys q1 q2
      split at e
      · rename_i hs
        cases e
        obtain ⟨a, us, rfl, f1, f2⟩ := R.lm qx q1
        obtain ⟨b, ws, rfl, f3, f4⟩ := R.lm qy q2
        exact .inl (.inr ⟨a, b, us, ws, rfl, rfl, f1, f3, by rw [f2.length, f4.length]; exact sizeOk_le hs, fun p np => NK.newL R np (f2.append f4) k⟩)
      · cases e
    · cases e
section
variable {X : Cx} {W : WX} {a b : Expr} {ma mb : ME} {pos : Pos}
theorem sn_add (ha : SE X W a ma) (hb : SE X W b mb) : SN X W (.BinOp a .Add b pos) (mOpN oAdd ma mb) := sn_op op_addA om_add ha hb
/-- an operation on two ints, with a test -/
def oIc (c : Int → Int → Bool) (g : Int → Int → Val) (x y : Val) (_ : AH) : Option Val := match x, y with
  | .int i, .int j => if c i j then some (g i j) else none
  | _, _ => none
def oI0 (g : Int → Int → Val) (x y : Val) (_ : AH) : Option Val := match x, y with
  | .int i, .int j => some (g i j)
  | _, _ => none
theorem om_I {K : KK} {C : Int → Int → Prop} {g : Int → Int → V} {c : Int → Int → Bool} {gv : Int → Int → Val} (hc : ∀ i j, c i j = true → C i j) (hg : ∀ i j r H, RV K r H (gv i j) (g i j)) : OpM K (rI C g) (oIc c gv) := by
  intro r h H x y u w z Q R qx qy e k
  unfold oIc at e
  split at e
  · split at e
    · rename_i hcc
      cases e; cases qx; cases qy
      exact ⟨_, _, rfl, rfl, hc _ _ hcc, now k R (hg _ _ r H)⟩
    · cases e
  · cases e
theorem om_I0 {K : KK} {g : Int → Int → V} {gv : Int → Int → Val} (hg : ∀ i j r H, RV K r H (gv i j) (g i j)) : OpM K (rI0 g) (oI0 gv) := by
  intro r h H x y u w z Q R qx qy e k
  unfold oI0 at e
  split at e
  · cases e; cases qx; cases qy
    exact ⟨_, _, rfl, rfl, now k R (hg _ _ r H)⟩
  · cases e
def mulOk (i j : Int) : Bool := decide (i.natAbs.log2 + j.natAbs.log2 < 1000000)
def divOk (j : Int) : Bool := decide (0 < j) && decide (j.natAbs.log2 < 9000)
def CPowW (i j : Int) : Prop := 0 ≤ j ∧ ((Builtin.Int.intBits i : Nat) : Int) * j ≤ 2 ^ 27
theorem op_powW {X : Cx} : OpR X (binaryOp .Pow) (rI CPowW fun i j => .int (i ^ j.toNat)) := opI fun _ _ _ _ _ _ _ hc q => pow_int hc.1 hc.2 q
def powOk (i j : Int) : Bool := decide (0 ≤ j ∧ ((Builtin.Int.intBits i : Nat) : Int) * j ≤ 134217728)
def oSub := oI0 fun i j => .int (i - j)
def oDiv := oIc (fun _ j => divOk j) fun i j => .int (i / j)
def oMod := oIc (fun _ j => decide (0 < j)) fun i j => .int (i % j)
def oPow := oIc powOk fun i j => .int (i ^ j.toNat)
theorem powOk_ok {i j : Int} (h : powOk i j = true) : CPowW i j := by
  have q : 0 ≤ j ∧ ((Builtin.Int.intBits i : Nat) : Int) * j ≤ 134217728 := of_decide_eq_true h
  exact ⟨q.1, q.2⟩
theorem mulOk_ok {i j : Int} (h : mulOk i j = true) : CMulW i j := by
  have q : i.natAbs.log2 + j.natAbs.log2 < 1000000 := of_decide_eq_true h
  exact q
theorem se_sub (ha : SE X W a ma) (hb : SE X W b mb) : SE X W (.BinOp a .Sub b pos) (mOp oSub ma mb) := se_op op_sub (om_I0 (fun _ _ _ _ => .int _)) ha hb
theorem se_div (ha : SE X W a ma) (hb : SE X W b mb) : SE X W (.BinOp a .FloorDiv b pos) (mOp oDiv ma mb) := se_op op_fdivW (om_I (fun i j e1 => by
  have e4 := Bool.and_eq_true_iff.mp e1
  exact ⟨of_decide_eq_true e4.1, of_decide_eq_true e4.2⟩) (fun _ _ _ _ => .int _)) ha hb
theorem se_mod (ha : SE X W a ma) (hb : SE X W b mb) : SE X W (.BinOp a .Mod b pos) (mOp oMod ma mb) := se_op op_mod (om_I (fun i j e1 => of_decide_eq_true e1) (fun _ _ _ _ => .int _)) ha hb
theorem se_pow (ha : SE X W a ma) (hb : SE X W b mb) : SE X W (.BinOp a .Pow b pos) (mOp oPow ma mb) := se_op op_powW (om_I (fun i j e1 => powOk_ok e1) (fun _ _ _ _ => .int _)) ha hb
/-- * : ints; a list and an int -/

def mulSOk (x : Str) (n : Int) : Bool := decide (x.length ≤ 1000 ∧ -1000000000 ≤ n ∧ n ≤ 16000)
theorem mulSOk_ok {x : Str} {n : Int} (h : mulSOk x n = true) : MulOk x n := by
  have q : x.length ≤ 1000 ∧ -1000000000 ≤ n ∧ n ≤ 16000 := of_decide_eq_true h
  refine ⟨?_, fun h1 _ => ?_, fun h1 _ => ?_⟩
  · rw [decide_eq_false (by omega), decide_eq_false (by omega)]; rfl
  · have h2 : (2 ^ 63 - 1) / 16000 ≤ (2 ^ 63 - 1 : Int) / n := by
      refine (Int.le_ediv_iff_mul_le (by omega)).mpr ?_
      have : (2 ^ 63 - 1) / 16000 * n ≤ (2 ^ 63 - 1) / 16000 * (16000 : Int) := Int.mul_le_mul_of_nonneg_left q.2.2 (by decide)
      exact Int.le_trans this (by decide)
    have h3 : (1000 : Int) ≤ (2 ^ 63 - 1) / 16000 := by decide
    omega
  · have h2 : x.length * n.toNat ≤ 1000 * 16000 := Nat.mul_le_mul q.1 (by omega)
    have h3 : (sizeLine : Nat) = 16777216 := sizeLine_eq
    unfold Builtin.Str.tooLong
    exact decide_eq_false (by omega)
def rMulS : R2 := fun x y H Q => ∃ a n, x = .str a ∧ y = .int n ∧ MulOk a n ∧ Q (.str (Txt.mul a n)) H
theorem op_mulS {X : Cx} : OpR X (binaryOp .Mult) rMulS := by
  intro pins s σ H x y v u Q I rx ry h
  obtain ⟨a, n, rfl, rfl, ok, q⟩ := h
  obtain ⟨t, rfl⟩ := rx
  obtain ⟨t', rfl⟩ := ry
  exact SB.mul ok fun t' k => ⟨.str _, H, I.kept (fun _ _ e => e), ⟨_, rfl⟩, q⟩
def oMul (x y : Val) (h : AH) : Option NV := match x, y with
  | .int i, .int j => if mulOk i j then some (.v (.int (i * j))) else none
  | .str a, .int k => if mulSOk a k then some (.v (.str (Txt.mul a k))) else none
  | x, .int k => (match lmV h x with
    | some xs => if decide (-(2 ^ 63) ≤ k ∧ k < 2 ^ 63) && sizeOk (xs.length * k.toNat) then some (.n (List.replicate k.toNat xs).flatten) else none
    | none => none)
  | _, _ => none
theorem RVs.rep {K : KK} {r : Rg} {H : Hp} {xs : List Val} {us : List V} (q : RVs K r H xs us) : ∀ k : Nat, RVs K r H (List.replicate k xs).flatten (List.replicate k us).flatten
  | 0 => .nil
  | k + 1 => by
    rw [List.replicate_succ, List.replicate_succ, List.flatten_cons, List.flatten_cons]
    exact q.append (RVs.rep q k)
theorem om_mul {K : KK} : OpN K (fun x y H Q => (rI CMulW (fun i j => .int (i * j)) x y H Q ∨ rRep x y H Q) ∨ rMulS x y H Q) oMul := by
  intro r h H x y u w z Q R qx qy e k
  unfold oMul at e
  split at e
  · split at e
    · rename_i hc
      cases e; cases qx; cases qy
      exact .inl (.inl ⟨_, _, rfl, rfl, mulOk_ok hc, nowV k R (.int _)⟩)
    · cases e
  · split at e
    · rename_i hc
      cases e; cases qx; cases qy
      exact .inr ⟨_, _, rfl, rfl, mulSOk_ok hc, nowV k R (.str _)⟩
    · cases e
  · split at e
    · rename_i xs q1
      split at e
      · rename_i hs
        cases e
        cases qy
        obtain ⟨a, us, rfl, f1, f2⟩ := R.lm qx q1
        have e4 := Bool.and_eq_true_iff.mp hs
        have e5 := of_decide_eq_true e4.1
        exact .inl (.inr ⟨a, _, us, rfl, rfl, f1, e5.1, e5.2, by rw [f2.length]; exact sizeOk_le e4.2, fun p np => NK.newL R np (f2.rep _) k⟩)
      · cases e
    · cases e
  · cases e
theorem sn_mul (ha : SE X W a ma) (hb : SE X W b mb) : SN X W (.BinOp a .Mult b pos) (mOpN oMul ma mb) := sn_op ((op_mulW.or op_rep).or op_mulS) om_mul ha hb
def uNeg (x : Val) (_ : AH) : Option Val := match x with
  | .int i => some (.int (-i))
  | _ => none
theorem se_neg (ha : SE X W a ma) : SE X W (.UnaryOp .USub a pos) (mUn uNeg ma) := se_un un_neg (fun r h H x u z Q R q e k => by
  cases q with
  | int i => cases e; exact ⟨i, rfl, now k R (.int _)⟩
  | _ => cases e) ha
end
/-! ### data -/
def datW (f : Val → Option PyData) : List Val → Option (List PyData)
  | [] => some []
  | x :: xs => match f x with
    | some d => (datW f xs).map (d :: ·)
    | none => none
def dat (h : AH) : Nat → Val → Option PyData
  | 0 => fun _ => none
  | n + 1 => fun v => match v with
    | .non => some .none
    | .bl b => some (.bool b)
    | .int i => some (.int i)
    | .str x => if PyData.strOk x then some (.str x) else none
    | .tup xs => (datW (dat h n) xs).map .tuple
    | v => match lsV h v with
      | some xs => (datW (dat h n) xs).map .list
      | none => none
section
variable {K : KK} {r : Rg} {h : AH} {H : Hp}
def DatOk (K : KK) (r : Rg) (h : AH) (H : Hp) (n : Nat) (f : Val → Option PyData) : Prop := ∀ (x : Val) (u : V) (d : PyData), RV K r H x u → f x = some d → Dp K H u d ∧ d.canLay0 = true ∧ d.depth ≤ n
theorem datW_ok {n : Nat} {f : Val → Option PyData} (hf : DatOk K r h H n f) : ∀ (xs : List Val) (us : List V) (ds : List PyData), RVs K r H xs us → datW f xs = some ds → DpAll K H us ds ∧ PyData.canLayAll0 ds = true ∧ PyData.depthAll ds ≤ n
  | [], us, ds, q, e => by
    cases q
    cases e
    exact ⟨.nil, by simp [PyData.canLayAll0], by simp [PyData.depthAll]⟩
  | x :: xs, us, ds, q, e => by
    cases q with
    | cons a b =>
      unfold datW at e
      cases q1 : f x with
      | none => rw [q1] at e; cases e
      | some d =>
        rw [q1] at e
        dsimp only at e
        cases q2 : datW f xs with
        | none => rw [q2] at e; cases e
        | some es =>
          rw [q2] at e
          cases e
          obtain ⟨a1, a2, a3⟩ := hf _ _ _ a q1
          obtain ⟨b1, b2, b3⟩ := datW_ok hf _ _ _ b q2
          refine ⟨.cons a1 b1, by simp [PyData.canLayAll0, a2, b2], ?_⟩
          simp only [PyData.depthAll]
          omega
theorem dat_ok (R : Rel K r h H) : ∀ (n : Nat), DatOk K r h H n (dat h n) := by
  intro n
  induction n with
  | zero => intro x u d q e; cases e
  | succ n ih =>
    intro x u d q e
    have lists : ∀ xs, lsV h x = some xs → (datW (dat h n) xs).map .list = some d → Dp K H u d ∧ d.canLay0 = true ∧ d.depth ≤ n + 1 := fun xs e1 e2 => by
      obtain ⟨a, us, rfl, s, t⟩ := R.lst q e1
      cases q3 : datW (dat h n) xs with
      | none => rw [q3] at e2; cases e2
      | some ds =>
        rw [q3] at e2
        cases e2
        obtain ⟨d1, d2, d3⟩ := datW_ok ih _ _ _ t q3
        exact ⟨.lst s d1, by simp [PyData.canLay0, d2], by simp only [PyData.depth]; omega⟩
    unfold dat at e
    try dsimp only at e
    cases x with
    | non => cases e; cases q; exact ⟨.non, by simp [PyData.canLay0], by simp [PyData.depth]⟩
    | bl b => cases e; cases q; exact ⟨.bl b, by simp [PyData.canLay0], by simp [PyData.depth]⟩
    | int b => cases e; cases q; exact ⟨.int b, by simp [PyData.canLay0], by simp [PyData.depth]⟩
    | str y =>
      dsimp only at e
      split at e
      · rename_i hs
        cases e; cases q
        exact ⟨.str y, by simp [PyData.canLay0, hs], by simp [PyData.depth]⟩
      · cases e
    | tup xs =>
      dsimp only at e
      cases q with
      | tup s t =>
        cases q : datW (dat h n) xs with
        | none => rw [q] at e; cases e
        | some ds =>
          rw [q] at e
          cases e
          obtain ⟨d1, d2, d3⟩ := datW_ok ih _ _ _ t q
          exact ⟨.tup s d1, by simp [PyData.canLay0, d2], by simp only [PyData.depth]; omega⟩
    | ref k =>
      dsimp only at e
      cases q1 : lsV h (.ref k) with
      | none => rw [q1] at e; cases e
      | some xs => rw [q1] at e; exact lists xs q1 e
    | fl xs => exact lists xs rfl e
    | sl xs => exact lists xs rfl e
    | fd _ _ => cases e
    | ft _ _ => cases e
    | ob _ _ _ => cases e
    | ex _ _ _ => cases e
theorem shaped_of {d : PyData} {n : Nat} (h1 : d.canLay0 = true) (h2 : d.depth ≤ n) (hn : n ≤ 64) : SeqAt.shaped d = true := by
  unfold SeqAt.shaped
  rw [h1, Bool.true_and]
  exact decide_eq_true (Nat.le_trans h2 hn)
end
/-! ### == and != -/
def eqS : Val → Val → Option Bool
  | .non, .non => some true | .non, .int _ => some false | .int _, .non => some false | .non, .bl _ => some false | .bl _, .non => some false | .non, .str _ => some false | .str _, .non => some false
  | .int i, .int j => some (decide (i = j)) | .bl a, .bl b => some (decide (a = b)) | .str x, .str y => some (decide (x = y))
  | .int _, .str _ => some false | .str _, .int _ => some false | .bl _, .str _ => some false | .str _, .bl _ => some false
  | _, _ => none
def eqB (x y : Val) (h : AH) : Option Bool := match eqS x y with
  | some b => some b
  | none => match dat h 30 x, dat h 30 y with
    | some d, some e => some (PyData.eqv d e)
    | _, _ => none
def oEq (x y : Val) (h : AH) : Option Val := (eqB x y h).map .bl
def oNe (x y : Val) (h : AH) : Option Val := (eqB x y h).map fun b => .bl (!b)
theorem eqS_ok {K : KK} {r : Rg} {H : Hp} {x y : Val} {u w : V} {b : Bool} (qx : RV K r H x u) (qy : RV K r H y w) (e : eqS x y = some b) : scal u w = true ∧ b = decide (u = w) := by
  cases qx <;> cases qy <;> simp only [eqS] at e <;> first | (cases e; exact ⟨rfl, by simp⟩) | cases e
theorem eqB_ok {K : KK} {r : Rg} {h : AH} {H : Hp} {x y : Val} {u w : V} {b : Bool} (R : Rel K r h H) (qx : RV K r H x u) (qy : RV K r H y w) (e : eqB x y h = some b) :
    (scal u w = true ∧ b = decide (u = w)) ∨ ∃ d d', Dp K H u d ∧ Dp K H w d' ∧ SeqAt.shaped d = true ∧ SeqAt.shaped d' = true ∧ b = PyData.eqv d d' := by
  unfold eqB at e
  cases q1 : eqS x y with
  | some b' =>
    rw [q1] at e
    cases e
    exact .inl (eqS_ok qx qy q1)
  | none =>
    rw [q1] at e
    dsimp only at e
    cases q2 : dat h 30 x with
    | none => rw [q2] at e; cases e
    | some d =>
      cases q3 : dat h 30 y with
      | none => rw [q2, q3] at e; cases e
      | some d' =>
        rw [q2, q3] at e
        cases e
        obtain ⟨a1, a2, a3⟩ := dat_ok R 30 _ _ _ qx q2
        obtain ⟨b1, b2, b3⟩ := dat_ok R 30 _ _ _ qy q3
        exact .inr ⟨d, d', a1, b1, shaped_of a2 a3 (by decide), shaped_of b2 b3 (by decide), rfl⟩
theorem om_eq {K : KK} : OpM K (fun x y H Q => rEq x y H Q ∨ rEqD K x y H Q) oEq := by
  intro r h H x y u w z Q R qx qy e k
  unfold oEq at e
  cases q1 : eqB x y h with
  | none => rw [q1] at e; cases e
  | some b =>
    rw [q1] at e
    cases e
    rcases eqB_ok R qx qy q1 with ⟨e1, e2⟩ | ⟨d, d', a1, b1, s1, s2, rfl⟩
    · exact .inl ⟨e1, by rw [← e2]; exact now k R (.bl _)⟩
    · exact .inr ⟨d, d', a1, b1, s1, s2, now k R (.bl _)⟩
theorem om_ne {K : KK} : OpM K (fun x y H Q => rNe x y H Q ∨ rNeD K x y H Q) oNe := by
  intro r h H x y u w z Q R qx qy e k
  unfold oNe at e
  cases q1 : eqB x y h with
  | none => rw [q1] at e; cases e
  | some b =>
    rw [q1] at e
    cases e
    rcases eqB_ok R qx qy q1 with ⟨e1, e2⟩ | ⟨d, d', a1, b1, s1, s2, rfl⟩
    · exact .inl ⟨e1, by rw [← e2]; exact now k R (.bl _)⟩
    · exact .inr ⟨d, d', a1, b1, s1, s2, now k R (.bl _)⟩
/-! ### order -/
def oOrd (gi : Int → Int → Bool) (gs : Str → Str → Bool) (x y : Val) (_ : AH) : Option Val := match x, y with
  | .int i, .int j => some (.bl (gi i j))
  | .str x, .str y => some (.bl (gs x y))
  | _, _ => none
theorem om_ord {K : KK} {gi : Int → Int → Bool} {gs : Str → Str → Bool} : OpM K (fun x y H Q => rI0 (fun i j => .bl (gi i j)) x y H Q ∨ (∃ i j, x = .str i ∧ y = .str j ∧ Q (.bl (gs i j)) H)) (oOrd gi gs) := by
  intro r h H x y u w z Q R qx qy e k
  unfold oOrd at e
  split at e
  · cases e; cases qx; cases qy; exact .inl ⟨_, _, rfl, rfl, now k R (.bl _)⟩
  · cases e; cases qx; cases qy; exact .inr ⟨_, _, rfl, rfl, now k R (.bl _)⟩
  · cases e
def ltS (x y : Str) : Bool := decide (x.cps.toList < y.cps.toList)
def oLt := oOrd (fun i j => decide (i < j)) ltS
def oLe := oOrd (fun i j => decide (i ≤ j)) fun x y => !ltS y x
def oGt := oOrd (fun i j => decide (j < i)) fun x y => ltS y x
def oGe := oOrd (fun i j => decide (j ≤ i)) fun x y => !ltS x y
theorem op_ltA {X : Cx} : OpR X (compareOp .Lt) (fun x y H Q => rI0 (fun i j => .bl (decide (i < j))) x y H Q ∨ (∃ i j, x = .str i ∧ y = .str j ∧ Q (.bl (ltS i j)) H)) := op_lt.or op_lt_str
theorem op_leA {X : Cx} : OpR X (compareOp .LtE) (fun x y H Q => rI0 (fun i j => .bl (decide (i ≤ j))) x y H Q ∨ (∃ i j, x = .str i ∧ y = .str j ∧ Q (.bl (!ltS j i)) H)) := op_le.or op_le_str
theorem op_gtA {X : Cx} : OpR X (compareOp .Gt) (fun x y H Q => rI0 (fun i j => .bl (decide (j < i))) x y H Q ∨ (∃ i j, x = .str i ∧ y = .str j ∧ Q (.bl (ltS j i)) H)) := op_gt.or op_gt_str
theorem op_geA {X : Cx} : OpR X (compareOp .GtE) (fun x y H Q => rI0 (fun i j => .bl (decide (j ≤ i))) x y H Q ∨ (∃ i j, x = .str i ∧ y = .str j ∧ Q (.bl (!ltS i j)) H)) := op_ge.or op_ge_str
/-! ### in, not in -/
def flat : Val → Bool
  | .non => true | .bl _ => true | .int _ => true | .str _ => true
  | _ => false
def eqF : Val → Val → Bool
  | .non, .non => true
  | .bl a, .bl b => a == b
  | .bl a, .int b => (if a then 1 else 0) == b
  | .int a, .bl b => a == (if b then 1 else 0)
  | .int a, .int b => a == b
  | .str a, .str b => a == b
  | _, _ => false
def isL : Val → Bool
  | .tup _ => false
  | _ => true
def oneC : Val → Option Nat
  | .str x => (match x.cps.toList with
    | [c] => some c
    | _ => none)
  | _ => none
theorem oneC_ok {x : Val} {c : Nat} (h : oneC x = some c) : x = .str ⟨#[c]⟩ := by
  unfold oneC at h
  split at h
  · rename_i y
    split at h
    · rename_i d e
      cases h
      obtain ⟨a⟩ := y
      congr 2
      exact Array.toList_inj.mp e
    · cases h
  · cases h
def inB (x y : Val) (h : AH) : Option Bool := match y with
  | .str z => (match oneC x with
    | some c => some (decide (c ∈ z.cps.toList))
    | none => none)
  | y => match seqOf h y with
    | some xs => if flat x && xs.all flat then some (xs.any fun v => eqF v x) else if isL y then (match dat h 29 x, datW (dat h 29) xs with
        | some d, some ds => some (ds.any fun z => PyData.eqv z d)
        | _, _ => none) else none
    | none => none
def oIn (x y : Val) (h : AH) : Option Val := (inB x y h).map .bl
def oNotIn (x y : Val) (h : AH) : Option Val := (inB x y h).map fun b => .bl (!b)
section
variable {K : KK} {r : Rg} {h : AH} {H : Hp}
theorem flat_ok {x : Val} {u : V} (q : RV K r H x u) (f : flat x = true) : flatV u = true := by
  cases q <;> first | rfl | cases f
theorem eqF_ok {x y : Val} {u w : V} (q : RV K r H x u) (q' : RV K r H y w) (f : flat x = true) (f' : flat y = true) : eqV u w = eqF x y := by
  cases q <;> cases q' <;> first | rfl | cases f | cases f'
theorem flats_ok : ∀ {xs : List Val} {us : List V}, RVs K r H xs us → xs.all flat = true → us.all flatV = true
  | _, _, .nil, _ => rfl
  | _, _, .cons a b, f => by
    rw [List.all_cons, Bool.and_eq_true] at f
    rw [List.all_cons, flat_ok a f.1, flats_ok b f.2]
    rfl
theorem inV_ok {x : Val} {u : V} (q : RV K r H x u) (f : flat x = true) : ∀ {xs : List Val} {us : List V}, RVs K r H xs us → xs.all flat = true → inV u us = xs.any fun v => eqF v x
  | _, _, .nil, _ => rfl
  | _, _, .cons a b, f' => by
    rw [List.all_cons, Bool.and_eq_true] at f'
    unfold inV
    rw [List.any_cons, List.any_cons, eqF_ok a q f'.1 f]
    have z := inV_ok q f b f'.2
    unfold inV at z
    rw [z]
theorem seqL {y : Val} {xs : List Val} (e : seqOf h y = some xs) (f : isL y = true) : lsV h y = some xs := by
  cases y <;> first | exact e | cases f
abbrev rInA (K : KK) : R2 := fun x y H Q => ((∃ (c : Nat) (z : Str), x = .str ⟨#[c]⟩ ∧ y = .str z ∧ Q (.bl (decide (c ∈ z.cps.toList))) H) ∨ rIn K false x y H Q) ∨ rInD K x y H Q
abbrev rNotInA (K : KK) : R2 := fun x y H Q => ((∃ (c : Nat) (z : Str), x = .str ⟨#[c]⟩ ∧ y = .str z ∧ Q (.bl (!decide (c ∈ z.cps.toList))) H) ∨ rIn K true x y H Q) ∨ rNotInD K x y H Q
theorem inB_ok (R : Rel K r h H) {x y : Val} {u w : V} {b : Bool} (qx : RV K r H x u) (qy : RV K r H y w) (e : inB x y h = some b) :
    (∃ (c : Nat) (z : Str), u = .str ⟨#[c]⟩ ∧ w = .str z ∧ b = decide (c ∈ z.cps.toList)) ∨ (∃ p us, w = .ref p ∧ (SqL K H p us ∨ SqT K H p us) ∧ flatV u = true ∧ us.all flatV = true ∧ b = inV u us) ∨
    (∃ d ds, Dp K H u d ∧ Dp K H w (.list ds) ∧ SeqAt.shaped d = true ∧ SeqAt.shaped (.list ds) = true ∧ b = ds.any fun z => PyData.eqv z d) := by
  unfold inB at e
  split at e
  · cases qy
    split at e
    · rename_i c hc
      cases e
      have := oneC_ok hc
      subst this
      cases qx
      exact .inl ⟨_, _, rfl, rfl, rfl⟩
    · cases e
  · split at e
    · rename_i xs es
      split at e
      · rename_i hf
        rw [Bool.and_eq_true] at hf
        cases e
        obtain ⟨p, us, e1, e2, e3⟩ := R.seq qy es
        exact .inr (.inl ⟨p, us, e1, e2, flat_ok qx hf.1, flats_ok e3 hf.2, (inV_ok qx hf.1 e3 hf.2).symm⟩)
      · split at e
        · rename_i hl
          split at e
          · rename_i d ds q1 q2
            cases e
            obtain ⟨a, us, rfl, s, t⟩ := R.lst qy (seqL es hl)
            obtain ⟨a1, a2, a3⟩ := dat_ok R 29 _ _ _ qx q1
            obtain ⟨b1, b2, b3⟩ := datW_ok (dat_ok R 29) _ _ _ t q2
            exact .inr (.inr ⟨d, ds, a1, .lst s b1, shaped_of a2 a3 (by decide), shaped_of (n := 30) (by simp [PyData.canLay0, b2]) (by simp only [PyData.depth]; omega) (by decide), rfl⟩)
          · cases e
        · cases e
    · cases e
theorem om_in : OpM K (rInA K) oIn := by
  intro r h H x y u w z Q R qx qy e k
  unfold oIn at e
  cases q1 : inB x y h with
  | none => rw [q1] at e; cases e
  | some b =>
    rw [q1] at e
    cases e
    rcases inB_ok R qx qy q1 with ⟨c, z, rfl, rfl, rfl⟩ | ⟨p, us, e1, e2, e3, e4, rfl⟩ | ⟨d, ds, e1, e2, e3, e4, rfl⟩
    · exact .inl (.inl ⟨c, z, rfl, rfl, now k R (.bl _)⟩)
    · exact .inl (.inr ⟨p, us, e1, e2, e3, e4, now k R (.bl _)⟩)
    · exact .inr ⟨d, ds, e1, e2, e3, e4, now k R (.bl _)⟩
theorem om_notIn : OpM K (rNotInA K) oNotIn := by
  intro r h H x y u w z Q R qx qy e k
  unfold oNotIn at e
  cases q1 : inB x y h with
  | none => rw [q1] at e; cases e
  | some b =>
    rw [q1] at e
    cases e
    rcases inB_ok R qx qy q1 with ⟨c, z, rfl, rfl, rfl⟩ | ⟨p, us, e1, e2, e3, e4, rfl⟩ | ⟨d, ds, e1, e2, e3, e4, rfl⟩
    · exact .inl (.inl ⟨c, z, rfl, rfl, now k R (.bl _)⟩)
    · exact .inl (.inr ⟨p, us, e1, e2, e3, e4, now k R (.bl _)⟩)
    · exact .inr ⟨d, ds, e1, e2, e3, e4, now k R (.bl _)⟩
end
/-! ### is None -/
def isNon : Val → Bool
  | .non => true
  | _ => false
def oIsN (x y : Val) (_ : AH) : Option Val := match y with
  | .non => some (.bl (isNon x))
  | _ => none
def oNotN (x y : Val) (_ : AH) : Option Val := match y with
  | .non => some (.bl (!isNon x))
  | _ => none
theorem isNon_ok {K : KK} {r : Rg} {H : Hp} {x : Val} {u : V} (q : RV K r H x u) : isNon x = decide (u = .non) := by cases q <;> rfl
theorem om_isN {K : KK} : OpM K (fun x y H Q => y = .non ∧ Q (.bl (decide (x = .non))) H) oIsN := by
  intro r h H x y u w z Q R qx qy e k
  cases qy with
  | non =>
    cases e
    exact ⟨rfl, by rw [← isNon_ok qx]; exact now k R (.bl _)⟩
  | _ => cases e
theorem om_notN {K : KK} : OpM K (fun x y H Q => y = .non ∧ Q (.bl (!decide (x = .non))) H) oNotN := by
  intro r h H x y u w z Q R qx qy e k
  cases qy with
  | non =>
    cases e
    exact ⟨rfl, by rw [← isNon_ok qx]; exact now k R (.bl _)⟩
  | _ => cases e
/-- the operators of comparison -/
inductive Cp where | eq | ne | lt | le | gt | ge | isIn | notIn | isN | notN
def Cp.op : Cp → CmpOp
  | .eq => .Eq | .ne => .NotEq | .lt => .Lt | .le => .LtE | .gt => .Gt | .ge => .GtE | .isIn => .In | .notIn => .NotIn | .isN => .Is | .notN => .IsNot
def Cp.o : Cp → Val → Val → AH → Option Val
  | .eq => oEq | .ne => oNe | .lt => oLt | .le => oLe | .gt => oGt | .ge => oGe | .isIn => oIn | .notIn => oNotIn | .isN => oIsN | .notN => oNotN
theorem Cp.ok {X : Cx} {k : Nat} (hr : Room k X.A) (c : Cp) : ∃ q : R2, OpR X (compareOp c.op) q ∧ OpM X.kk q c.o := by
  have hu : X.A.units + 65 < cLine := by have := hr.un; omega
  cases c with
  | eq => exact ⟨_, op_eq.or (op_eqD hr.units), om_eq⟩
  | ne => exact ⟨_, op_ne.or (op_neD hr.units), om_ne⟩
  | lt => exact ⟨_, op_ltA, om_ord⟩
  | le => exact ⟨_, op_leA, om_ord⟩
  | gt => exact ⟨_, op_gtA, om_ord⟩
  | ge => exact ⟨_, op_geA, om_ord⟩
  | isIn => exact ⟨_, (op_in_sign.or op_in_seq).or (op_inD hu), om_in⟩
  | notIn => exact ⟨_, (op_notIn_sign.or op_notIn_seq).or (op_notInD hu), om_notIn⟩
  | isN => exact ⟨_, op_isN, om_isN⟩
  | notN => exact ⟨_, op_notN, om_notN⟩
section
variable {X : Cx} {W : WX} {a b c : Expr} {ma mb mc : ME} {pos : Pos} {k : Nat}
theorem se_cp (p : Cp) (hr : Room k X.A) (ha : SE X W a ma) (hb : SE X W b mb) (hm : behindInMarks p.op b = false := by rfl) : SE X W (.Compare a [p.op] [b] pos) (mOp p.o ma mb) := by
  obtain ⟨q, h1, h2⟩ := Cp.ok hr p
  exact se_cmp h1 h2 ha hb hm
theorem st_cp (p : Cp) (hr : Room k X.A) (ha : SE X W a ma) (hb : SE X W b mb) (hm : behindInMarks p.op b = false := by rfl) : ST X W (.Compare a [p.op] [b] pos) (mTest (mOp p.o ma mb)) := by
  obtain ⟨q, h1, h2⟩ := Cp.ok hr p
  exact st_cmp h1 h2 ha hb hm
/-- a < b < c -/
def mChain (o o' : Val → Val → AH → Option Val) (ma mb mc : ME) : ME := fun sl => bnd (ma sl) fun x => bnd (mb sl) fun y => bnd (lft (o x y)) fun z => match z with
  | .bl true => bnd (mc sl) fun w => lft (o' y w)
  | .bl false => ret (.bl false)
  | _ => fail
end
end Mr

set_option Elab.async false
set_option linter.all false
set_option maxRecDepth 100000
set_option maxHeartbeats 1000000
namespace Mr
open PySem PySem.Spec PyProof.Rows L2
section
variable {X : Cx} {W : WX} {K : KK} {a b c : Expr} {ma mb mc : ME} {pos : Pos} {k : Nat}
theorem mChain_run {q q' : R2} {o o' : Val → Val → AH → Option Val} (p1 : OpM K q o) (p2 : OpM K q' o') {s : L2.St} {H : Hp} {Q : VK} (z : tE K W (mChain o o' ma mb mc) s H Q) : tChain q q' (tE K W ma) (tE K W mb) (tE K W mc) s H Q := by
  obtain ⟨r, h, sl, R, S, o1⟩ := z
  refine ⟨r, h, sl, R, S, o1.split.mono fun x r1 h1 H1 g1 R1 o2 u q1 => ⟨r1, h1, sl, R1, S.go g1, o2.split.mono fun y r2 h2 H2 g2 R2 o3 w q2 => ?_⟩⟩
  obtain ⟨z, e, k⟩ := o3.split.lft
  refine p1 r2 h2 H2 x y u w z _ R2 (q1.go g2) q2 e fun r3 H3 g3 R3 v q3 => ?_
  have k1 := k r3 H3 g3 R3
  cases q3 with
  | bl b =>
    refine ⟨b, rfl, ?_⟩
    cases b with
    | true =>
      refine iteT ⟨r3, _, sl, R3, S.go (g1.trans (g2.trans g3)), k1.split.mono fun w' r4 h4 H4 g4 R4 o4 w2 q4 => ?_⟩
      obtain ⟨z2, e2, k2⟩ := o4.lft
      exact p2 r4 h4 H4 y w' w w2 z2 Q R4 (q2.go (g3.trans g4)) q4 e2 k2
    | false => exact iteF (k1.now R3 _ (.bl false))
  | _ => exact k1.elim
theorem se_chain (p p' : Cp) (hr : Room k X.A) (ha : SE X W a ma) (hb : SE X W b mb) (hc : SE X W c mc) (hm : lastMarks [p.op, p'.op] [b, c] = false := by with_unfolding_all rfl) : SE X W (.Compare a [p.op, p'.op] [b, c] pos) (mChain p.o p'.o ma mb mc) := by
  obtain ⟨q, h1, h2⟩ := Cp.ok hr p
  obtain ⟨q', h1', h2'⟩ := Cp.ok hr p'
  exact PE.imp (pe_chain h1 h1' ha hb hc hm) fun _ _ _ z => mChain_run h2 h2' z
theorem st_chain (p p' : Cp) (hr : Room k X.A) (ha : SE X W a ma) (hb : SE X W b mb) (hc : SE X W c mc) (hm : lastMarks [p.op, p'.op] [b, c] = false := by with_unfolding_all rfl) : ST X W (.Compare a [p.op, p'.op] [b, c] pos) (mTest (mChain p.o p'.o ma mb mc)) := by
  obtain ⟨q, h1, h2⟩ := Cp.ok hr p
  obtain ⟨q', h1', h2'⟩ := Cp.ok hr p'
  exact PT.imp (pt_chain h1 h1' ha hb hc hm) fun _ _ _ z => mChain_run h2 h2' (mTest_run z)
/-! ### arguments, displays -/
def mNil : MA := fun _ => ret []
def mCons (m : ME) (t : MA) : MA := fun sl => bnd (m sl) fun x => bnd (t sl) fun xs => ret (x :: xs)
variable {es : List Expr} {mt : MA}
theorem sa_nil : SA X W [] mNil := PA.imp pa_nil fun s H Q ⟨r, h, sl, R, S, o1⟩ => o1.now R _ .nil
theorem sa_cons (ha : SE X W a ma) (hr : SA X W es mt) (hs : starEach (a :: es) X.env = (false, eval a X.env) :: starEach es X.env := by rfl) : SA X W (a :: es) (mCons ma mt) := PA.imp (pa_cons ha hr hs) fun s H Q ⟨r, h, sl, R, S, o1⟩ =>
  ⟨r, h, sl, R, S, o1.split.mono fun x r1 h1 H1 g1 R1 o2 u q1 => ⟨r1, h1, sl, R1, S.go g1, o2.split.mono fun xs r2 h2 H2 g2 R2 o3 us q2 => o3.now R2 _ (.cons (q1.go g2) q2)⟩⟩
def mTup (t : MA) : ME := fun sl => bnd (t sl) fun xs => lft fun _ => if sizeOk xs.length then some (.tup xs) else none
def mLst (t : MA) : MN := fun sl => bnd (t sl) fun xs => lft fun _ => if sizeOk xs.length then some (.n xs) else none
theorem se_tup {x1} (h : SA X W es mt) : SE X W (.Tuple es x1 pos) (mTup mt) := PE.imp (pe_tup h) fun s H Q ⟨r, h, sl, R, S, o1⟩ => by
  refine ⟨r, h, sl, R, S, o1.split.mono fun xs r1 h1 H1 g1 R1 o2 us q1 => ?_⟩
  obtain ⟨v, e, k⟩ := o2.lft
  split at e
  · rename_i hs
    cases e
    exact ⟨q1.sizeL hs, fun p np => cn_tup R1 q1 k np⟩
  · cases e
theorem NK.base {H H1 H' : Hp} {r r1 r' : Rg} {h : AH} {Q : VK} {z : NV} (g : Go r H r1 H1) (R : Rel K r1 h H1) (k : NK K H Q z r' H') : NK K H1 Q z r' H' := by
  cases z with
  | v x => exact k
  | n xs => exact fun a us na => k a us (g.none R na)
theorem sn_lst (h : SA X W es mt) : SN X W (.List es pos) (mLst mt) := PE.imp (pe_lst h) fun s H Q ⟨r, h, sl, R, S, o1⟩ => by
  refine ⟨r, h, sl, R, S, o1.split.mono fun xs r1 h1 H1 g1 R1 o2 us q1 => ?_⟩
  obtain ⟨v, e, k⟩ := o2.lft
  split at e
  · rename_i hs
    cases e
    exact ⟨q1.sizeL hs, fun p np => NK.newL R1 np q1 fun r2 H2 g2 R2 => (k r2 H2 g2 R2).base g1 R1⟩
  · cases e
/-! ### calls of built-ins -/
def mCall (o : List Val → AH → Option Val) (t : MA) : ME := fun sl => bnd (t sl) fun xs => lft (o xs)
def mCallN (o : List Val → AH → Option NV) (t : MA) : MN := fun sl => bnd (t sl) fun xs => lft (o xs)
theorem mCall_run {q : List V → Hp → VK → Prop} {o : List Val → AH → Option Val} (ho : CaM K q o) {s : L2.St} {H : Hp} {Q : VK} (z : tE K W (mCall o mt) s H Q) : tCB q (tA K W mt) s H Q := by
  obtain ⟨r, h, sl, R, S, o1⟩ := z
  refine ⟨r, h, sl, R, S, o1.split.mono fun xs r1 h1 H1 g1 R1 o2 us q1 => ?_⟩
  obtain ⟨v, e, k⟩ := o2.lft
  exact ho r1 h1 H1 xs us v Q R1 q1 e k
theorem mCallN_run {q : List V → Hp → VK → Prop} {o : List Val → AH → Option NV} (ho : CaN K q o) {s : L2.St} {H : Hp} {Q : VK} (z : tN K W (mCallN o mt) s H Q) : tCB q (tA K W mt) s H Q := by
  obtain ⟨r, h, sl, R, S, o1⟩ := z
  refine ⟨r, h, sl, R, S, o1.split.mono fun xs r1 h1 H1 g1 R1 o2 us q1 => ?_⟩
  obtain ⟨v, e, k⟩ := o2.lft
  exact ho r1 h1 H1 xs us v Q R1 q1 e fun r2 H2 g2 R2 => (k r2 H2 g2 R2).base g1 R1
variable {x : Str} {p : Pos}
theorem se_callB {id : String} {q : List V → Hp → VK → Prop} {o : List Val → AH → Option Val} (hc : CallR X (.builtin id) q) (ho : CaM X.kk q o) (hv : bootBuiltins x = some (.builtin id)) (hm : X.mg x = none) (ha : SA X W (a :: es) mt) (hg : Gl X x := by rfl) (hn : x ≠ "__name__" := by decide) (hdb : (x == ("__debug__" : Str)) = false := by decide)
    (he : starEach (a :: es) X.env = (false, eval a X.env) :: starEach es X.env := by rfl) (hpl : (backTo pos (starEach es X.env)).any (·.1) = false := by rfl) : SE X W (.Call (.Name x p) (a :: es) [] pos) (mCall o mt) :=
  PE.imp (pe_callB hc hg hm hv ha hn hdb he hpl) fun _ _ _ z => mCall_run ho z
theorem sn_callB {id : String} {q : List V → Hp → VK → Prop} {o : List Val → AH → Option NV} (hc : CallR X (.builtin id) q) (ho : CaN X.kk q o) (hv : bootBuiltins x = some (.builtin id)) (hm : X.mg x = none) (ha : SA X W (a :: es) mt) (hg : Gl X x := by rfl) (hn : x ≠ "__name__" := by decide) (hdb : (x == ("__debug__" : Str)) = false := by decide)
    (he : starEach (a :: es) X.env = (false, eval a X.env) :: starEach es X.env := by rfl) (hpl : (backTo pos (starEach es X.env)).any (·.1) = false := by rfl) : SN X W (.Call (.Name x p) (a :: es) [] pos) (mCallN o mt) :=
  PE.imp (pe_callB hc hg hm hv ha hn hdb he hpl) fun _ _ _ z => mCallN_run ho z
theorem se_callTy {id : String} {q : List V → Hp → VK → Prop} {o : List Val → AH → Option Val} (hc : CallR X (.type id) q) (ho : CaM X.kk q o) (hv : bootBuiltins x = some (.type id)) (hm : X.mg x = none) (ha : SA X W (a :: es) mt) (hg : Gl X x := by rfl) (hn : x ≠ "__name__" := by decide) (hdb : (x == ("__debug__" : Str)) = false := by decide)
    (he : starEach (a :: es) X.env = (false, eval a X.env) :: starEach es X.env := by rfl) (hpl : (backTo pos (starEach es X.env)).any (·.1) = false := by rfl) : SE X W (.Call (.Name x p) (a :: es) [] pos) (mCall o mt) :=
  PE.imp (pe_callTy hc hg hm hv ha hn hdb he hpl) fun _ _ _ z => mCall_run ho z
theorem sn_callTy {id : String} {q : List V → Hp → VK → Prop} {o : List Val → AH → Option NV} (hc : CallR X (.type id) q) (ho : CaN X.kk q o) (hv : bootBuiltins x = some (.type id)) (hm : X.mg x = none) (ha : SA X W (a :: es) mt) (hg : Gl X x := by rfl) (hn : x ≠ "__name__" := by decide) (hdb : (x == ("__debug__" : Str)) = false := by decide)
    (he : starEach (a :: es) X.env = (false, eval a X.env) :: starEach es X.env := by rfl) (hpl : (backTo pos (starEach es X.env)).any (·.1) = false := by rfl) : SN X W (.Call (.Name x p) (a :: es) [] pos) (mCallN o mt) :=
  PE.imp (pe_callTy hc hg hm hv ha hn hdb he hpl) fun _ _ _ z => mCallN_run ho z
/-- len -/
def lenB (h : AH) : Val → Option Nat
  | .str x => if sizeOk x.length then some x.length else none
  | v => (seqOf h v).map List.length
def cLen (xs : List Val) (h : AH) : Option Val := match xs with
  | [x] => (lenB h x).map fun n => .int n
  | _ => none
theorem cm_len : CaM K (fun xs H Q => ∃ x n, xs = [x] ∧ LenV K x H n ∧ Q (.int n) H) cLen := by
  intro r h H xs us z Q R q e k
  match xs, e with
  | [x], e =>
    obtain ⟨u, rfl, qx⟩ := q.one
    unfold cLen at e
    dsimp only at e
    cases q1 : lenB h x with
    | none => rw [q1] at e; cases e
    | some n =>
      rw [q1] at e
      cases e
      refine ⟨u, n, rfl, ?_, now k R (.int _)⟩
      unfold lenB at q1
      split at q1
      · cases qx
        split at q1
        · rename_i hs
          cases q1
          exact ⟨sizeOk_le hs, rfl⟩
        · cases q1
      · cases q2 : seqOf h x with
        | none => rw [q2] at q1; cases q1
        | some ys =>
          rw [q2] at q1
          cases q1
          obtain ⟨p, us, rfl, s, t⟩ := R.seq qx q2
          rcases s with s | s
          · exact .inl ⟨us, s, t.length.symm⟩
          · exact .inr ⟨us, s, t.length.symm⟩
theorem se_len (hm : X.mg "len" = none) (ha : SA X W (a :: es) mt) (hg : Gl X "len" := by rfl) 
    (he : starEach (a :: es) X.env = (false, eval a X.env) :: starEach es X.env := by rfl) (hpl : (backTo pos (starEach es X.env)).any (·.1) = false := by rfl) : SE X W (.Call (.Name "len" p) (a :: es) [] pos) (mCall cLen mt) :=
  se_callB call_len cm_len boot_len hm ha hg (by decide) (by decide) he hpl
/-- int, min, max -/
def cInt (xs : List Val) (_ : AH) : Option Val := match xs with
  | [.int i] => some (.int i)
  | [.bl b] => some (.int (if b then 1 else 0))
  | _ => none
theorem cm_int : CaM K (fun xs H Q => (∃ i, xs = [.int i] ∧ Q (.int i) H) ∨ ∃ k, xs = [.bl k] ∧ Q (.int (if k then 1 else 0)) H) cInt := by
  intro r h H xs us z Q R q e k
  unfold cInt at e
  split at e
  · cases e
    obtain ⟨u, rfl, qx⟩ := q.one
    cases qx
    exact .inl ⟨_, rfl, now k R (.int _)⟩
  · cases e
    obtain ⟨u, rfl, qx⟩ := q.one
    cases qx
    exact .inr ⟨_, rfl, now k R (.int _)⟩
  · cases e
theorem se_cint (hm : X.mg "int" = none) (ha : SA X W (a :: es) mt) (hg : Gl X "int" := by rfl) 
    (he : starEach (a :: es) X.env = (false, eval a X.env) :: starEach es X.env := by rfl) (hpl : (backTo pos (starEach es X.env)).any (·.1) = false := by rfl) : SE X W (.Call (.Name "int" p) (a :: es) [] pos) (mCall cInt mt) :=
  se_callTy call_int1 cm_int boot_int hm ha hg (by decide) (by decide) he hpl
def cMin2 (xs : List Val) (_ : AH) : Option Val := match xs with
  | [.int i, .int j] => some (.int (if j < i then j else i))
  | _ => none
def cMax2 (xs : List Val) (_ : AH) : Option Val := match xs with
  | [.int i, .int j] => some (.int (if j > i then j else i))
  | _ => none
theorem cm_min2 : CaM K (fun xs H Q => ∃ i j, xs = [.int i, .int j] ∧ Q (.int (if j < i then j else i)) H) cMin2 := by
  intro r h H xs us z Q R q e k
  unfold cMin2 at e
  split at e
  · cases e
    obtain ⟨u, w, rfl, qx, qy⟩ := q.two
    cases qx; cases qy
    exact ⟨_, _, rfl, now k R (.int _)⟩
  · cases e
theorem cm_max2 : CaM K (fun xs H Q => ∃ i j, xs = [.int i, .int j] ∧ Q (.int (if j > i then j else i)) H) cMax2 := by
  intro r h H xs us z Q R q e k
  unfold cMax2 at e
  split at e
  · cases e
    obtain ⟨u, w, rfl, qx, qy⟩ := q.two
    cases qx; cases qy
    exact ⟨_, _, rfl, now k R (.int _)⟩
  · cases e
theorem se_min2 (hc : X.calm = true) (hm : X.mg "min" = none) (ha : SA X W (a :: es) mt) (hg : Gl X "min" := by rfl) 
    (he : starEach (a :: es) X.env = (false, eval a X.env) :: starEach es X.env := by rfl) (hpl : (backTo pos (starEach es X.env)).any (·.1) = false := by rfl) : SE X W (.Call (.Name "min" p) (a :: es) [] pos) (mCall cMin2 mt) :=
  se_callB (call_min2 hc) cm_min2 (by decide +kernel) hm ha hg (by decide) (by decide) he hpl
theorem se_max2 (hc : X.calm = true) (hm : X.mg "max" = none) (ha : SA X W (a :: es) mt) (hg : Gl X "max" := by rfl) 
    (he : starEach (a :: es) X.env = (false, eval a X.env) :: starEach es X.env := by rfl) (hpl : (backTo pos (starEach es X.env)).any (·.1) = false := by rfl) : SE X W (.Call (.Name "max" p) (a :: es) [] pos) (mCall cMax2 mt) :=
  se_callB (call_max2 hc) cm_max2 (by decide +kernel) hm ha hg (by decide) (by decide) he hpl
/-- list(x) -/
def cList (xs : List Val) (h : AH) : Option NV := match xs with
  | [x] => (seqOf h x).map .n
  | _ => none
theorem cm_list : CaN K (fun xs H Q => ∃ p ys, xs = [.ref p] ∧ (SqL K H p ys ∨ SqT K H p ys) ∧ ∀ l, H l = none → Q (.ref l) (upd H l (.lst ys))) cList := by
  intro r h H xs us z Q R q e k
  match xs, e with
  | [x], e =>
    obtain ⟨u, rfl, qx⟩ := q.one
    unfold cList at e
    dsimp only at e
    cases q1 : seqOf h x with
    | none => rw [q1] at e; cases e
    | some ys =>
      rw [q1] at e
      cases e
      obtain ⟨p, us, rfl, s, t⟩ := R.seq qx q1
      exact ⟨p, us, rfl, s, fun l nl => NK.newL R nl t k⟩
theorem sn_clist (hm : X.mg "list" = none) (ha : SA X W (a :: es) mt) (hg : Gl X "list" := by rfl) 
    (he : starEach (a :: es) X.env = (false, eval a X.env) :: starEach es X.env := by rfl) (hpl : (backTo pos (starEach es X.env)).any (·.1) = false := by rfl) : SN X W (.Call (.Name "list" p) (a :: es) [] pos) (mCallN cList mt) :=
  sn_callTy call_list_of cm_list (by decide +kernel) hm ha hg (by decide) (by decide) he hpl
/-! ### isinstance -/
def tyName (h : AH) : Val → Option String
  | .non => some "NoneType" | .bl _ => some "bool" | .int _ => some "int" | .str _ => some "str" | .tup _ => some "tuple"
  | .fl _ => some "list" | .sl _ => some "list" | .fd _ _ => some "dict" | .ft _ _ => some "dict"
  | .ref n => match h[n]? with
    | some (.lst _) => some "list"
    | some (.fz (.fl _)) => some "list"
    | some (.dk _ _) => some "dict"
    | some (.dt _ _) => some "dict"
    | _ => none
  | _ => none
def isiB (T : String) (x : Val) (h : AH) : Option Val := match tyName h x with
  | some t => (kitB t T).map .bl
  | none => none
def mIsi (T : String) (m : ME) : ME := mUn (isiB T) m
theorem sqt_ty {H : Hp} {a : Addr} {us : List V} (s : SqT K H a us) : TyX K H (.ref a) (.type "tuple") := by
  rcases s with (s | ⟨o, s⟩) | ⟨o, its, n, s, c, _⟩
  · exact .base (.tup s)
  · exact .fTuple s
  · exact .kTuple s c
theorem Rel.ty {r : Rg} {h : AH} {H : Hp} {x : Val} {u : V} {t : String} (R : Rel K r h H) (q : RV K r H x u) (e : tyName h x = some t) : TyX K H u (.type t) := by
  cases q with
  | ex _ _ _ => cases e
  | ob _ _ _ _ _ => cases e
  | non => cases e; exact .base .non
  | bl b => cases e; exact .base (.bl b)
  | int i => cases e; exact .base (.int i)
  | str y => cases e; exact .base (.str y)
  | tup s _ => cases e; exact sqt_ty s
  | fl z e1 t => cases e; exact .base (.lst e1)
  | sl z t =>
    cases e
    rcases z with ⟨o, f1⟩ | ⟨o, its, n, f1, c, _⟩
    · exact .base (.frz f1)
    · exact .kList f1 c
  | fd z e1 _ _ => cases e; exact .base (.dK e1)
  | ft z e1 _ _ => cases e; exact .base (.dT e1)
  | @ref _ _ n a ea =>
    unfold tyName at e
    dsimp only at e
    split at e
    · rename_i q1
      cases e
      obtain ⟨us, f1, f2⟩ := R.ob n a _ ea q1
      exact .base (.lst f1)
    · rename_i ys q1
      cases e
      have q2 : RV K r.lo H (.fl ys) (.ref a) := R.ob n a _ ea q1
      cases q2 with
      | fl z e1 e2 => exact .base (.lst e1)
    · rename_i q1
      cases e
      obtain ⟨us, f1, f2⟩ := R.ob n a _ ea q1
      exact .base (.dK f1)
    · rename_i q1
      cases e
      obtain ⟨us, f1, f2⟩ := R.ob n a _ ea q1
      exact .base (.dT f1)
    · cases e
theorem se_isi {T : String} {y : Str} {p2 : Pos} (hm : X.mg "isinstance" = none) (hmT : X.mg y = none) (hb : bootBuiltins y = some (.type T)) (ha : SE X W a ma) (hg : Gl X "isinstance" := by rfl) (hgT : Gl X y := by rfl) (hny : y ≠ "__name__" := by decide) (hdy : (y == ("__debug__" : Str)) = false := by decide)
    (he : starEach [a, .Name y p2] X.env = (false, eval a X.env) :: starEach [.Name y p2] X.env := by rfl) (he2 : starEach [.Name y p2] X.env = (false, eval (.Name y p2) X.env) :: starEach [] X.env := by rfl) (hpl : (backTo pos (starEach [.Name y p2] X.env)).any (·.1) = false := by rfl) : SE X W (.Call (.Name "isinstance" p) [a, .Name y p2] [] pos) (mIsi T ma) :=
  PE.imp (pe_callB call_isi hg hm (by decide +kernel) (pa_cons ha (pa_cons (pe_bltn (v := .ty T) hgT hmT hb rfl hny hdy) pa_nil he2) he) (by decide) (by decide) he hpl) fun s H Q ⟨r, h, sl, R, S, o1⟩ => by
    refine ⟨r, h, sl, R, S, o1.split.mono fun x r1 h1 H1 g1 R1 o2 u q1 => ?_⟩
    obtain ⟨v, e, k⟩ := o2.lft
    unfold isiB at e
    split at e
    · rename_i t q2
      cases q3 : kitB t T with
      | none => rw [q3] at e; cases e
      | some b =>
        rw [q3] at e
        cases e
        exact ⟨u, .ty T, .type t, .type T, b, rfl, .ty T, R1.ty q1 q2, kit_ty q3, now k R1 (.bl b)⟩
    · cases e
/-! ### items, slices -/
def oIx (x y : Val) (h : AH) : Option Val := match y with
  | .int i => (match x with
    | .str z => (match atI z.cps.toList i with
      | some c => if sizeOk z.length then some (.str ⟨#[c]⟩) else none
      | none => none)
    | x => match seqOf h x with
      | some xs => atI xs i
      | none => none)
  | _ => none
theorem RVs.atI {r : Rg} {H : Hp} {xs : List Val} {us : List V} {i : Int} {v : Val} (q : RVs K r H xs us) (e : L2.atI xs i = some v) : ∃ u, L2.atI us i = some u ∧ RV K r H v u := by
  unfold L2.atI at e ⊢
  rw [q.length]
  cases q1 : ixN xs.length i with
  | none => rw [q1] at e; cases e
  | some j =>
    rw [q1] at e
    obtain ⟨u, e1, e2⟩ := q.get (i := j) e
    exact ⟨u, e1, e2⟩
theorem om_ix : OpM K (rIx K) oIx := by
  intro r h H x y u w z Q R qx qy e k
  unfold oIx at e
  split at e
  · cases qy
    split at e
    · split at e
      · rename_i c q1
        split at e
        · rename_i hs
          cases e
          cases qx
          exact .inr (.inr ⟨_, _, c, rfl, rfl, sizeOk_le hs, q1, now k R (.str _)⟩)
        · cases e
      · cases e
    · split at e
      · rename_i xs es
        obtain ⟨p, us, rfl, s, t⟩ := R.seq qx es
        obtain ⟨u', f1, f2⟩ := t.atI e
        rcases s with s | s
        · exact .inl ⟨p, us, _, u', rfl, rfl, s, f1, now k R f2⟩
        · exact .inr (.inl ⟨p, us, _, u', rfl, rfl, s, f1, now k R f2⟩)
      · cases e
  · cases e
theorem se_ix (ha : SE X W a ma) (hb : SE X W b mb) (hs : PlainIx b := by exact fun _ _ => rfl) : SE X W (.Subscript a b pos) (mOp oIx ma mb) := PE.imp (pe_ix ix_seq ha hb hs) fun _ _ _ z => opm_run om_ix z
/-- parts of slices -/
def mNoPart : MO := fun _ => ret none
def intOf : Val → Option (Option Int)
  | .int i => some (some i)
  | _ => none
def mPart (m : ME) : MO := fun sl => bnd (m sl) fun v => lft fun _ => intOf v
theorem so_none : SO X W none mNoPart := PO.imp po_none fun s H Q ⟨r, h, sl, R, S, o1⟩ => o1.now R
theorem so_some (ha : SE X W a ma) : SO X W (some a) (mPart ma) := PO.imp (po_some ha) fun s H Q ⟨r, h, sl, R, S, o1⟩ => by
  refine ⟨r, h, sl, R, S, o1.split.mono fun x r1 h1 H1 g1 R1 o2 u q1 => ?_⟩
  obtain ⟨v, e, k⟩ := o2.lft
  cases q1 with
  | int i =>
    cases e
    exact ⟨i, rfl, k r1 H1 (Go.refl _ _) R1⟩
  | _ => cases e
def cutL {α : Type} (xs : List α) (lo hi : Option Int) : List α := (xs.drop (HT.sIx xs.length 0 lo)).take (HT.sIx xs.length xs.length hi - HT.sIx xs.length 0 lo)
def oSl (x : Val) (lo hi : Option Int) (h : AH) : Option NV := match x with
  | .str z => if sizeOk z.length then some (.v (.str (cutS z lo hi))) else none
  | .tup xs => if decide (HT.sIx xs.length 0 lo = 0 ∧ HT.sIx xs.length xs.length hi = xs.length) then none else some (.v (.tup (cutL xs lo hi)))
  | x => (lsV h x).map fun xs => .n (cutL xs lo hi)
def mSl (m : ME) (l u : MO) : MN := fun sl => bnd (m sl) fun x => bnd (l sl) fun lo => bnd (u sl) fun hi => lft (oSl x lo hi)
theorem RVs.cut {r : Rg} {H : Hp} {xs : List Val} {us : List V} (q : RVs K r H xs us) (lo hi : Option Int) : RVs K r H (cutL xs lo hi) (cutV us lo hi) := by
  unfold cutL cutV
  rw [q.length]
  exact (q.drop _).take _
variable {lo hi : Option Expr} {ml mh : MO}
theorem sn_sl {p2 : Pos} (ha : SE X W a ma) (hl : SO X W lo ml) (hh : SO X W hi mh) : SN X W (.Subscript a (.Slice lo hi none p2) pos) (mSl ma ml mh) := PE.imp (pe_slice ((sl_list.or sl_tup).or sl_str) ha hl hh) fun s H Q ⟨r, h, sl, R, S, o1⟩ => by
  refine ⟨r, h, sl, R, S, o1.split.mono fun x r1 h1 H1 g1 R1 o2 u q1 => ⟨r1, h1, sl, R1, S.go g1, o2.split.mono fun l r2 h2 H2 g2 R2 o3 => ⟨r2, h2, sl, R2, S.go (g1.trans g2), o3.split.mono fun m r3 h3 H3 g3 R3 o4 => ?_⟩⟩⟩
  obtain ⟨v, e, k⟩ := o4.lft
  have q3 := q1.go (g2.trans g3)
  have kk : ∀ r' H', Go r3 H3 r' H' → Rel X.kk r' h3 H' → NK X.kk H3 Q v r' H' := fun r' H' g' R' => (k r' H' g' R').base (g1.trans (g2.trans g3)) R3
  unfold oSl at e
  split at e
  · split at e
    · rename_i hs
      cases e
      cases q3
      exact .inr ⟨_, rfl, sizeOk_le hs, nowV kk R3 (.str _)⟩
    · cases e
  · split at e
    · cases e
    · rename_i hs
      cases e
      cases q3 with
      | tup s t =>
        refine .inl (.inr ⟨_, _, rfl, s, ?_, fun p np => cn_tup R3 (t.cut l m) kk np⟩)
        rw [t.length]
        exact fun z => hs (decide_eq_true z)
  · cases q4 : lsV h3 x with
    | none => rw [q4] at e; cases e
    | some xs =>
      rw [q4] at e
      cases e
      obtain ⟨a, us, rfl, s, t⟩ := R3.lst q3 q4
      exact .inl (.inl ⟨a, us, rfl, s, fun p np => NK.newL R3 np (t.cut l m) kk⟩)
end
end Mr

set_option Elab.async false
set_option linter.all false
set_option maxRecDepth 100000
set_option maxHeartbeats 1000000
namespace Mr
open PySem PySem.Spec PyProof.Rows L2
/-! ### targets -/
inductive Pat where
  | nm (i : Nat)
  | tp (ps : List Pat)
mutual
def Pat.bd : Pat → Val → Sl → Option Sl
  | .nm i, v, sl => some (sl.set i (some v))
  | .tp ps, .tup xs, sl => if xs.length = ps.length then Pat.bds ps xs sl else none
  | .tp _, _, _ => none
def Pat.bds : List Pat → List Val → Sl → Option Sl
  | [], _, sl => some sl
  | p :: ps, x :: xs, sl => match Pat.bd p x sl with
    | some sl1 => Pat.bds ps xs sl1
    | none => none
  | _ :: _, [], _ => none
end
mutual
def Pat.tg (K : KK) : Pat → TG
  | .nm i => gName i
  | .tp ps => gTup K ps.length (Pat.tgs K ps)
def Pat.tgs (K : KK) : List Pat → TGs
  | [] => gNil
  | p :: ps => gCons (Pat.tg K p) (Pat.tgs K ps)
end
mutual
def Pat.names : Pat → List Nat
  | .nm i => [i]
  | .tp ps => Pat.namess ps
def Pat.namess : List Pat → List Nat
  | [] => []
  | p :: ps => Pat.names p ++ Pat.namess ps
end
theorem wipe_set {s : L2.St} {i : Nat} {v : Option V} : ∀ {vs : List Nat}, i ∈ vs → wipe (s.set i v) vs = wipe s vs
  | j :: vs, h => by
    unfold wipe
    by_cases hj : i ∈ vs
    · rw [wipe_set hj]
    · have e : i = j := by
        rcases List.mem_cons.mp h with e | e
        · exact e
        · exact absurd e hj
      subst e
      have out : ∀ {ws : List Nat}, i ∉ ws → wipe (s.set i v) ws = (wipe s ws).set i v := fun {ws} => by
        induction ws with
        | nil => intro _; rfl
        | cons k ws ih =>
          intro hk
          unfold wipe
          have h1 : i ≠ k := fun z => hk (by rw [z]; exact List.mem_cons_self)
          rw [ih fun z => hk (List.mem_cons_of_mem _ z), List.set_comm _ _ h1]
      rw [out hj, List.set_set]
section
variable {K : KK} {r : Rg} {H : Hp}
mutual
theorem Pat.run : ∀ (p : Pat) {v : Val} {u : V} {sl sl' : Sl} {s : L2.St}, RV K r H v u → RSl K r H sl s → p.bd v sl = some sl' →
    ∃ s', RSl K r H sl' s' ∧ (∀ vs : List Nat, (∀ i ∈ p.names, i ∈ vs) → wipe s' vs = wipe s vs) ∧ ∀ Q : L2.St → Hp → Prop, Q s' H → p.tg K u s H Q
  | .nm i, v, u, sl, sl', s, q, S, e => by
    unfold Pat.bd at e
    cases e
    exact ⟨s.set i (some u), S.set q, fun vs h => wipe_set (h i (by unfold Pat.names; exact List.mem_cons_self)), fun Q k => by unfold Pat.tg; exact k⟩
  | .tp ps, v, u, sl, sl', s, q, S, e => by
    cases q with
    | tup t1 t2 =>
      unfold Pat.bd at e
      split at e
      · rename_i hl
        obtain ⟨s', S', w', k'⟩ := Pat.runs ps t2 S e
        refine ⟨s', S', fun vs h => w' vs (by unfold Pat.names at h; exact h), fun Q k => ?_⟩
        unfold Pat.tg
        exact ⟨_, _, rfl, t1, by rw [t2.length]; exact hl, k' Q (by rw [t2.length]; exact hl) k⟩
      · cases e
    | _ => unfold Pat.bd at e; cases e
theorem Pat.runs : ∀ (ps : List Pat) {xs : List Val} {us : List V} {sl sl' : Sl} {s : L2.St}, RVs K r H xs us → RSl K r H sl s → Pat.bds ps xs sl = some sl' →
    ∃ s', RSl K r H sl' s' ∧ (∀ vs : List Nat, (∀ i ∈ Pat.namess ps, i ∈ vs) → wipe s' vs = wipe s vs) ∧ ∀ Q : L2.St → Hp → Prop, us.length = ps.length → Q s' H → Pat.tgs K ps us s H Q
  | [], xs, us, sl, sl', s, q, S, e => by
    unfold Pat.bds at e
    cases e
    refine ⟨s, S, fun _ _ => rfl, fun Q hl k => ?_⟩
    unfold Pat.tgs
    exact ⟨List.eq_nil_of_length_eq_zero hl, k⟩
  | p :: ps, xs, us, sl, sl', s, q, S, e => by
    cases q with
    | nil => unfold Pat.bds at e; cases e
    | cons q1 q2 =>
      rename_i x u xs us
      unfold Pat.bds at e
      cases e1 : p.bd x sl with
      | none => rw [e1] at e; cases e
      | some sl1 =>
        rw [e1] at e
        obtain ⟨s1, S1, w1, k1⟩ := Pat.run p q1 S e1
        obtain ⟨s2, S2, w2, k2⟩ := Pat.runs ps q2 S1 e
        refine ⟨s2, S2, fun vs h => ?_, fun Q hl k => ?_⟩
        · unfold Pat.namess at h
          rw [w2 vs fun i hi => h i (List.mem_append_right _ hi), w1 vs fun i hi => h i (List.mem_append_left _ hi)]
        · unfold Pat.tgs
          exact ⟨u, us, rfl, k1 _ (k2 Q (by simpa using hl) k)⟩
end
end
section
variable {X : Cx} {W : WX} {K : KK} {pos : Pos}
abbrev SG (X : Cx) (e : Expr) (p : Pat) : Prop := PG X e (p.tg X.kk)
abbrev SGs (X : Cx) (es : List Expr) (ps : List Pat) : Prop := PGs X es (Pat.tgs X.kk ps)
theorem sg_nm {i : Nat} {x : Str} (hN : X.N.Nodup) (hi : X.N[i]? = some x := by rfl) (hx : Loc X.env.scope x := by first | exact Or.inl rfl | exact Or.inr rfl) (hf : X.fn x = true ∨ X.env.scope.names.lookup x = some .local := by first | exact .inl rfl | exact .inr rfl) : SG X (.Name x pos) (.nm i) := by
  have q := pg_name (pos := pos) hN hi hx hf
  show PG X _ (Pat.tg X.kk (.nm i))
  unfold Pat.tg
  exact q
theorem sgs_nil : SGs X [] [] := by
  show PGs X _ (Pat.tgs X.kk [])
  unfold Pat.tgs
  exact pgs_nil
theorem sgs_cons {e : Expr} {es : List Expr} {p : Pat} {ps : List Pat} (h1 : SG X e p) (h2 : SGs X es ps) (hs : (assignEach (e :: es) X.env).map (·.2) = assign e X.env :: (assignEach es X.env).map (·.2) := by rfl) : SGs X (e :: es) (p :: ps) := by
  show PGs X _ (Pat.tgs X.kk (p :: ps))
  unfold Pat.tgs
  exact pgs_cons h1 h2 hs
theorem sg_tp {es : List Expr} {k : Nat} {ps : List Pat} (hc : X.calm = true) (h : SGs X es ps) (hn : (assignEach es X.env).length = ps.length := by rfl) (hst : (assignEach es X.env).findIdx? (·.1) = none := by rfl) : SG X (.Tuple es k pos) (.tp ps) := by
  show PG X _ (Pat.tg X.kk (.tp ps))
  unfold Pat.tg
  exact pg_tup hc h hn hst
/-! ### statements -/
inductive Fl where
  | nx (s : Sl) | rt (v : Val) | bk (s : Sl) | ct (s : Sl) | ex (c fld : Str) (v : Val) (s : Sl)
abbrev SR := Option (Fl × AH)
abbrev MS := Sl → AH → SR
/-- what is raised within m leaves the statement -/
def sB {α : Type} (m : M α) (sl : Sl) (k : α → AH → SR) : AH → SR := fun h => match m h with
  | .ok a h' => k a h'
  | .exc c f v h' => some (.ex c f v sl, h')
  | .bad => none
def FlK (K : KK) (W : WX) (D : Ends) (r : Rg) (H : Hp) : Fl → Prop
  | .nx sl => ∀ s, RSl K r H sl s → D.nx s H
  | .rt v => ∀ u, RV K r H v u → D.rt u H
  | .bk sl => ∀ s, RSl K r H sl s → D.bk s H
  | .ct sl => ∀ s, RSl K r H sl s → D.ct s H
  | .ex c fld v sl => ∀ s u d C, RSl K r H sl s → RV K r.lo H v u → K.ct c = some C → H d = none → W (.ref C) (some d) s (upd H d (.xd [(fld, u)]))
/-- what is wanted of a statement's outcome -/
def OutS (K : KK) (W : WX) (D : Ends) (r : Rg) (H : Hp) : SR → Prop
  | some (fl, h') => ∀ r' H', Go r H r' H' → Rel K r' h' H' → FlK K W D r' H' fl
  | none => False
def tS (K : KK) (W : WX) (m : MS) : TS := fun D σ H => ∃ r h sl, Rel K r h H ∧ RSl K r H sl σ ∧ OutS K W D r H (m sl h)
theorem OutS.base {D : Ends} {r r' : Rg} {H H' : Hp} {z : SR} (o : OutS K W D r H z) (g : Go r H r' H') : OutS K W D r' H' z := by
  cases z with
  | none => exact o
  | some z => exact fun r2 H2 g2 R2 => o r2 H2 (g.trans g2) R2
theorem OutS.sB {α : Type} {D : Ends} {r : Rg} {H : Hp} {m : M α} {sl : Sl} {k : α → AH → SR} {h : AH} {σ : L2.St} (o : OutS K W D r H (sB m sl k h)) (S : RSl K r H sl σ) :
    Out K r H (m h) (fun a r1 h1 H1 => OutS K W D r1 H1 (k a h1)) (fun cls d H' => W cls d σ H') := by
  unfold Mr.sB at o
  cases q : m h with
  | ok a h1 => rw [q] at o; exact fun r1 H1 g1 R1 => o.base g1
  | exc c f v h1 => rw [q] at o; exact fun r1 H1 u d C g1 R1 qu hc hd => o r1 H1 g1 R1 σ u d C (S.go g1) qu hc hd
  | bad => rw [q] at o; exact o.elim
theorem OutS.now {D : Ends} {r : Rg} {H : Hp} {fl : Fl} {h : AH} (o : OutS K W D r H (some (fl, h))) (R : Rel K r h H) : FlK K W D r H fl := o r H (Go.refl r H) R
abbrev SS (X : Cx) (W : WX) (e : Stmt) (m : MS) : Prop := PS X e (tS X.kk W m)
abbrev SSs (X : Cx) (W : WX) (e : List Stmt) (m : MS) : Prop := PSs X e (tS X.kk W m)
variable {e : Expr} {m : ME} {st : Stmt} {rest : List Stmt} {ms mu : MS}
def mNext : MS := fun sl h => some (.nx sl, h)
def mSeq (a b : MS) : MS := fun sl h => match a sl h with
  | some (.nx sl1, h1) => b sl1 h1
  | z => z
theorem sss_nil : SSs X W [] mNext := PSs.imp pss_nil fun D s H ⟨r, h, sl, R, S, o⟩ => o.now R s S
theorem sss_cons (h1 : SS X W st ms) (h2 : SSs X W rest mu) : SSs X W (st :: rest) (mSeq ms mu) := PSs.imp (pss_cons h1 h2) fun D s H ⟨r, h, sl, R, S, o⟩ => by
  refine ⟨r, h, sl, R, S, ?_⟩
  unfold mSeq at o
  cases q : ms sl h with
  | none => rw [q] at o; exact o
  | some z =>
    obtain ⟨fl, h1⟩ := z
    rw [q] at o
    cases fl with
    | nx sl1 => exact fun r1 H1 g1 R1 s1 S1 => ⟨r1, h1, sl1, R1, S1, OutS.base o g1⟩
    | rt v => exact fun r1 H1 g1 R1 => o r1 H1 g1 R1
    | bk v => exact fun r1 H1 g1 R1 => o r1 H1 g1 R1
    | ct v => exact fun r1 H1 g1 R1 => o r1 H1 g1 R1
    | ex c f v s1 => exact fun r1 H1 g1 R1 => o r1 H1 g1 R1
theorem sss_one (h1 : SS X W st ms) : SSs X W [st] ms := pss_one h1
def mBreak : MS := fun sl h => some (.bk sl, h)
def mCont : MS := fun sl h => some (.ct sl, h)
theorem ss_pass : SS X W (.Pass pos) mNext := PS.imp ps_pass fun D s H ⟨r, h, sl, R, S, o⟩ => o.now R s S
theorem ss_break : SS X W (.Break pos) mBreak := PS.imp ps_break fun D s H ⟨r, h, sl, R, S, o⟩ => o.now R s S
theorem ss_cont : SS X W (.Continue pos) mCont := PS.imp ps_continue fun D s H ⟨r, h, sl, R, S, o⟩ => o.now R s S
def mDrop (m : ME) : MS := fun sl => sB (m sl) sl fun _ h => some (.nx sl, h)
theorem ss_expr (he : SE X W e m) (hs : swapsWith e none pos.line X.env = pure false := by rfl) : SS X W (.Expr e pos) (mDrop m) := PS.imp (ps_expr he hs) fun D s H ⟨r, h, sl, R, S, o⟩ =>
  ⟨r, h, sl, R, S, (o.sB S).mono fun x r1 h1 H1 g1 R1 o1 u q1 => OutS.now o1 R1 s (S.go g1)⟩
def mRet (m : ME) : MS := fun sl => sB (m sl) sl fun v h => some (.rt v, h)
theorem ss_ret (he : SE X W e m) : SS X W (.Return (some e) pos) (mRet m) := PS.imp (ps_ret he) fun D s H ⟨r, h, sl, R, S, o⟩ =>
  ⟨r, h, sl, R, S, (o.sB S).mono fun x r1 h1 H1 g1 R1 o1 u q1 => OutS.now o1 R1 u q1⟩
def mRetN : MS := fun _ h => some (.rt .non, h)
theorem ss_retN : SS X W (.Return none pos) mRetN := PS.imp ps_retN fun D s H ⟨r, h, sl, R, S, o⟩ => o.now R .non .non
def mIfS (t : MT) (a b : MS) : MS := fun sl => sB (t sl) sl fun c h => if c = true then a sl h else b sl h
theorem ss_if {c : Expr} {p q : List Stmt} {t : MT} (hc : ST X W c t) (ha : SSs X W p ms) (hb : SSs X W q mu) : SS X W (.If c p q pos) (mIfS t ms mu) := PS.imp (ps_if hc ha hb) fun D s H ⟨r, h, sl, R, S, o⟩ => by
  refine ⟨r, h, sl, R, S, (o.sB S).mono fun c r1 h1 H1 g1 R1 o1 => ?_⟩
  cases c with
  | true => exact iteT ⟨r1, h1, sl, R1, S.go g1, o1⟩
  | false => exact iteF ⟨r1, h1, sl, R1, S.go g1, o1⟩
def mNever : MS := fun _ _ => none
theorem ss_never : SS X W st mNever := PS.imp ps_never fun D s H ⟨r, h, sl, R, S, o⟩ => o.elim
theorem sss_never {sts : List Stmt} : SSs X W sts mNever := PSs.imp pss_never fun D s H ⟨r, h, sl, R, S, o⟩ => o.elim
/-- name = e -/
def mSet (i : Nat) (m : ME) : MS := fun sl => sB (m sl) sl fun v h => some (.nx (sl.set i (some v)), h)
theorem mSet_run {i : Nat} {D : Ends} {s : L2.St} {H : Hp} (z : tS K W (mSet i m) D s H) : tAsg (tE K W m) (gName i) D s H := by
  obtain ⟨r, h, sl, R, S, o⟩ := z
  exact ⟨r, h, sl, R, S, (o.sB S).mono fun x r1 h1 H1 g1 R1 o1 u q1 => OutS.now o1 R1 _ ((S.go g1).set q1)⟩
theorem ss_set {i : Nat} {x : Str} {pos' : Pos} (hN : X.N.Nodup) (he : SE X W e m) (hi : X.N[i]? = some x := by rfl) (hx : Loc X.env.scope x := by first | exact Or.inl rfl | exact Or.inr rfl) (hs : swapsWith e (some (.Name x pos')) pos.line X.env = pure false := by rfl) (hf : X.fn x = true ∨ X.env.scope.names.lookup x = some .local := by first | exact .inl rfl | exact .inr rfl) :
    SS X W (.Assign [.Name x pos'] e pos) (mSet i m) := PS.imp (ps_set hN hi hx he hs hf) fun _ _ _ z => mSet_run z
/-- pattern = e -/
def mAsg (p : Pat) (m : ME) : MS := fun sl => sB (m sl) sl fun v h => match p.bd v sl with
  | some sl1 => some (.nx sl1, h)
  | none => none
theorem ss_asg {tg : Expr} {p : Pat} (he : SE X W e m) (hg : SG X tg p) (hs : swapsWithSole [tg] e pos.line X.env = pure false := by rfl) (hw : swappedStores [tg] e X.env = pure none := by rfl)
    (h1 : (assignEach [tg] X.env).map (·.2) = [assign tg X.env] := by rfl) : SS X W (.Assign [tg] e pos) (mAsg p m) := PS.imp (ps_asg he hg hs hw h1) fun D s H ⟨r, h, sl, R, S, o⟩ => by
  refine ⟨r, h, sl, R, S, (o.sB S).mono fun x r1 h1 H1 g1 R1 o1 u q1 => ?_⟩
  cases e2 : p.bd x sl with
  | none => rw [e2] at o1; exact o1.elim
  | some sl1 =>
    rw [e2] at o1
    obtain ⟨s', S', _, kk⟩ := Pat.run p q1 (S.go g1) e2
    exact kk D.nx (OutS.now o1 R1 s' S')
/-- a, b = x, y -/
def mPar (i j : Nat) (t : MA) : MS := fun sl => sB (t sl) sl fun vs h => match vs with
  | [v, w] => some (.nx ((sl.set i (some v)).set j (some w)), h)
  | _ => none
theorem ss_par {i j : Nat} {x y : Str} {a b : Expr} {mt : MA} {px py pt : Pos} {kt k2 pt2} (hc : X.calm = true) (hN : X.N.Nodup) (ha : SA X W [a, b] mt) (hi : X.N[i]? = some x := by rfl) (hj : X.N[j]? = some y := by rfl) (hij : i ≠ j := by decide)
    (hx : X.env.scope.names.lookup x = some .local := by rfl) (hy : X.env.scope.names.lookup y = some .local := by rfl)
    (hw : swappedStores [.Tuple [.Name x px, .Name y py] kt pt] (.Tuple [a, b] k2 pt2) X.env = pure (some [x, y]) := by rfl)
    (hs : swapsWithSole [.Tuple [.Name x px, .Name y py] kt pt] (.Tuple [a, b] k2 pt2) pos.line X.env = pure false := by rfl) :
    SS X W (.Assign [.Tuple [.Name x px, .Name y py] kt pt] (.Tuple [a, b] k2 pt2) pos) (mPar i j mt) := PS.imp (ps_par hc hN hi hj hij hx hy ha hw hs) fun D s H ⟨r, h, sl, R, S, o⟩ => by
  refine ⟨r, h, sl, R, S, (o.sB S).mono fun vs r1 h1 H1 g1 R1 o1 us q1 => ?_⟩
  match vs, o1 with
  | [v, w], o1 =>
    obtain ⟨u, z, rfl, q2, q3⟩ := q1.two
    exact ⟨u, z, rfl, OutS.now o1 R1 _ (((S.go g1).set q2).set q3)⟩
def mPar3 (i j l : Nat) (t : MA) : MS := fun sl => sB (t sl) sl fun vs h => match vs with
  | [u, v, w] => some (.nx (((sl.set i (some u)).set j (some v)).set l (some w)), h)
  | _ => none
theorem ss_par3 {i j l : Nat} {x y z : Str} {a b c : Expr} {mt : MA} {px py pz pt : Pos} {kt k2 pt2} (hc : X.calm = true) (hN : X.N.Nodup) (ha : SA X W [a, b, c] mt) (hi : X.N[i]? = some x := by rfl) (hj : X.N[j]? = some y := by rfl) (hl : X.N[l]? = some z := by rfl) (hij : i ≠ j := by decide) (hil : i ≠ l := by decide) (hjl : j ≠ l := by decide)
    (hx : X.env.scope.names.lookup x = some .local := by rfl) (hy : X.env.scope.names.lookup y = some .local := by rfl) (hz : X.env.scope.names.lookup z = some .local := by rfl)
    (hw : swappedStores [.Tuple [.Name x px, .Name y py, .Name z pz] kt pt] (.Tuple [a, b, c] k2 pt2) X.env = pure (some [x, y, z]) := by rfl)
    (hs : swapsWithSole [.Tuple [.Name x px, .Name y py, .Name z pz] kt pt] (.Tuple [a, b, c] k2 pt2) pos.line X.env = pure false := by rfl) :
    SS X W (.Assign [.Tuple [.Name x px, .Name y py, .Name z pz] kt pt] (.Tuple [a, b, c] k2 pt2) pos) (mPar3 i j l mt) := PS.imp (ps_par3 hc hN hi hj hl hij hil hjl hx hy hz ha hw hs) fun D s H ⟨r, h, sl, R, S, o⟩ => by
  refine ⟨r, h, sl, R, S, (o.sB S).mono fun vs r1 h1 H1 g1 R1 o1 us q1 => ?_⟩
  match vs, o1 with
  | [u, v, w], o1 =>
    obtain ⟨u', v', w', rfl, q2, q3, q4⟩ := q1.three
    exact ⟨u', v', w', rfl, OutS.now o1 R1 _ ((((S.go g1).set q2).set q3).set q4)⟩
/-- o[i] = e, a list -/
def stL (o i v : Val) (h : AH) : Option AH := match o, i with
  | .ref n, .int z => (match mutAt h n with
    | some xs => (match ixN xs.length z with
      | some j => some (h.set n (.lst (xs.set j v)))
      | none => none)
    | none => none)
  | _, _ => none
def mSub (mo mi m : ME) : MS := fun sl => sB (m sl) sl fun v => sB (mo sl) sl fun o => sB (mi sl) sl fun i h => (stL o i v h).map fun h' => (.nx sl, h')
theorem ss_sub {o i : Expr} {mo mi : ME} {pos' : Pos} (ho : SE X W o mo) (hi : SE X W i mi) (he : SE X W e m)
    (ha : ∀ v, assign (.Subscript o i pos') X.env v = (do
      let ov ← holding [v] (eval o X.env)
      let iv ← holding [v, ov] (eval i X.env)
      standAt pos'
      holding [v, ov, iv] (setItem ov iv v)
      release [v, ov, iv] []) := by intro _; rfl) (hs : swapsWithSole [.Subscript o i pos'] e pos.line X.env = pure false := by rfl) (hw : swappedStores [.Subscript o i pos'] e X.env = pure none := by rfl)
    (h1 : (assignEach [.Subscript o i pos'] X.env).map (·.2) = [assign (.Subscript o i pos') X.env] := by rfl) : SS X W (.Assign [.Subscript o i pos'] e pos) (mSub mo mi m) := PS.imp (ps_asg he (pg_sub ho hi set_list ha) hs hw h1) fun D s H ⟨r, h, sl, R, S, z⟩ => by
  refine ⟨r, h, sl, R, S, (z.sB S).mono fun v r1 h1 H1 g1 R1 z1 u q1 => ⟨r1, h1, sl, R1, S.go g1, (OutS.sB z1 (S.go g1)).mono fun o r2 h2 H2 g2 R2 z2 w q2 => ⟨r2, h2, sl, R2, S.go (g1.trans g2), (OutS.sB z2 (S.go (g1.trans g2))).mono fun i r3 h3 H3 g3 R3 z3 x q3 => ?_⟩⟩⟩
  have q2' := q2.go g3
  have q1' := q1.go (g2.trans g3)
  have S3 := S.go (g1.trans (g2.trans g3))
  cases e4 : stL o i v h3 with
  | none => rw [e4] at z3; exact z3.elim
  | some h4 =>
    rw [e4] at z3
    unfold stL at e4
    split at e4
    · rename_i n j
      cases q2' with
      | @ref _ _ _ a ea =>
        cases q3
        split at e4
        · rename_i xs q4
          split at e4
          · rename_i l q5
            cases e4
            obtain ⟨f0, us, f1, f2⟩ := R3.mut q4 ea
            refine ⟨a, us, j, l, rfl, rfl, f1, by rw [f2.length]; exact q5, ?_⟩
            exact cn_set (Q := fun H' => D.nx s H') R3 ea f0 f1 (f2.set q1' l) fun H4 k4 R4 => z3 r3 H4 k4 R4 s (S3.go k4)
          · cases e4
        · cases e4
    · cases e4
/-- name op= e (ints, texts) -/
def mAug (i : Nat) (o : Val → Val → AH → Option Val) (m : ME) : MS := fun sl => match sl[i]? with
  | some (some x) => sB (m sl) sl fun y h => (o x y h).map fun z => (.nx (sl.set i (some z)), h)
  | _ => fun _ => none
theorem ss_aug {i : Nat} {x : Str} {op : Operator} {q : R2} {o : Val → Val → AH → Option Val} {pos' : Pos} (hN : X.N.Nodup) (hp : OpR X (inplaceOp op) q) (ho : OpM X.kk q o) (he : SE X W e m) (hi : X.N[i]? = some x := by rfl) (hx : Loc X.env.scope x := by first | exact Or.inl rfl | exact Or.inr rfl) (hf : X.fn x = true ∨ X.env.scope.names.lookup x = some .local := by first | exact .inl rfl | exact .inr rfl) :
    SS X W (.AugAssign (.Name x pos') op e pos) (mAug i o m) := by
  refine PS.imp (ps_aug (ti := q) hN hi hx he (fun pins s σ H x y v u Q I r1 r2 h => hp pins s σ H x y v u Q I r1 r2 h) hf) fun D s H ⟨r, h, sl, R, S, z⟩ => ?_
  unfold mAug at z
  cases q1 : sl[i]? with
  | none => rw [q1] at z; exact z.elim
  | some w =>
    rw [q1] at z
    cases w with
    | none => exact z.elim
    | some x =>
      obtain ⟨ux, f1, f2⟩ := S.2 i x q1
      refine ⟨ux, f1, r, h, sl, R, S, (z.sB S).mono fun y r1 h1 H1 g1 R1 z1 u q2 => ?_⟩
      cases e2 : o x y h1 with
      | none => rw [e2] at z1; exact z1.elim
      | some w =>
        rw [e2] at z1
        exact ho r1 h1 H1 x y ux u w _ R1 (f2.go g1) q2 e2 fun r2 H2 g2 R2 v q3 => z1 r2 H2 g2 R2 _ ((S.go (g1.trans g2)).set q3)
def oAug (x y : Val) (_ : AH) : Option Val := match x, y with
  | .int i, .int j => some (.int (i + j))
  | .str x, .str y => if sizeOk (x.length + y.length) then some (.str (x ++ y)) else none
  | _, _ => none
theorem om_aug : OpM K (fun x y H Q => rI0 (fun i j => .int (i + j)) x y H Q ∨ (∃ i j, x = .str i ∧ y = .str j ∧ i.length + j.length ≤ sizeLine ∧ Q (.str (i ++ j)) H)) oAug := by
  intro r h H x y u w z Q R qx qy e k
  unfold oAug at e
  split at e
  · cases e; cases qx; cases qy; exact .inl ⟨_, _, rfl, rfl, Mr.now k R (.int _)⟩
  · split at e
    · rename_i hs
      cases e; cases qx; cases qy
      exact .inr ⟨_, _, rfl, rfl, sizeOk_le hs, Mr.now k R (.str _)⟩
    · cases e
  · cases e
theorem ss_augadd {i : Nat} {x : Str} {pos' : Pos} (hN : X.N.Nodup) (he : SE X W e m) (hi : X.N[i]? = some x := by rfl) (hx : Loc X.env.scope x := by first | exact Or.inl rfl | exact Or.inr rfl) (hf : X.fn x = true ∨ X.env.scope.names.lookup x = some .local := by first | exact .inl rfl | exact .inr rfl) :
    SS X W (.AugAssign (.Name x pos') .Add e pos) (mAug i oAug m) := ss_aug hN (iop_add.or iop_add_str) om_aug he hi hx hf
theorem ss_augsub {i : Nat} {x : Str} {pos' : Pos} (hN : X.N.Nodup) (he : SE X W e m) (hi : X.N[i]? = some x := by rfl) (hx : Loc X.env.scope x := by first | exact Or.inl rfl | exact Or.inr rfl) (hf : X.fn x = true ∨ X.env.scope.names.lookup x = some .local := by first | exact .inl rfl | exact .inr rfl) :
    SS X W (.AugAssign (.Name x pos') .Sub e pos) (mAug i oSub m) := ss_aug hN iop_sub (om_I0 (fun _ _ _ _ => .int _)) he hi hx hf
end
end Mr

set_option Elab.async false
set_option linter.all false
set_option maxRecDepth 100000
set_option maxHeartbeats 1000000
namespace Mr
open PySem PySem.Spec PyProof.Rows L2
/-- how many turns a loop of the mirror may take -/
@[irreducible] def FUEL : Nat := 1000000
theorem FUEL_eq : FUEL = 1000000 := by unfold FUEL; rfl
def whileL (t : MT) (body : MS) : Nat → MS
  | 0 => fun _ _ => none
  | n + 1 => fun sl => sB (t sl) sl fun c h1 => if c = true then (match body sl h1 with
      | some (.nx sl2, h2) => whileL t body n sl2 h2
      | some (.ct sl2, h2) => whileL t body n sl2 h2
      | some (.bk sl2, h2) => some (.nx sl2, h2)
      | z => z) else some (.nx sl, h1)
section
variable {X : Cx} {W : WX} {K : KK} {pos : Pos}
theorem ss_while {c : Expr} {body : List Stmt} {t : MT} {mb : MS} (hp : PassesOwn (model X.prog X.w) X.A X.env X.xe) (hc : ST X W c t) (hb : SSs X W body mb) : SS X W (.While c body [] pos) (whileL t mb FUEL) := by
  refine PS.imp (ps_while hp hc hb) fun D s H ⟨r, h, sl, R, S, o⟩ => ?_
  refine ⟨fun n s H => ∃ r h sl, Rel X.kk r h H ∧ RSl X.kk r H sl s ∧ OutS X.kk W D r H (whileL t mb n sl h), ⟨FUEL, r, h, sl, R, S, o⟩, ?_⟩
  rintro n s H ⟨r, h, sl, R, S, o⟩
  cases n with
  | zero => exact o.elim
  | succ n =>
    unfold whileL at o
    refine ⟨r, h, sl, R, S, (OutS.sB o S).mono fun b r1 h1 H1 g1 R1 o1 => ?_⟩
    cases b with
    | false => exact iteF (OutS.now o1 R1 s (S.go g1))
    | true =>
      refine iteT ⟨fun s H => ∃ r h sl, Rel X.kk r h H ∧ RSl X.kk r H sl s ∧ OutS X.kk W D r H (whileL t mb n sl h), fun s' H' z => ⟨n, Nat.lt_succ_self n, z⟩, r1, h1, sl, R1, S.go g1, ?_⟩
      rw [if_pos rfl] at o1
      cases q2 : mb sl h1 with
      | none => rw [q2] at o1; exact o1.elim
      | some z =>
        obtain ⟨f2, h2⟩ := z
        rw [q2] at o1
        intro r2 H2 g2 R2
        cases f2 with
        | nx sl2 => exact fun s2 S2 => ⟨r2, h2, sl2, R2, S2, OutS.base o1 g2⟩
        | ct sl2 => exact fun s2 S2 => ⟨r2, h2, sl2, R2, S2, OutS.base o1 g2⟩
        | bk sl2 => exact o1 r2 H2 g2 R2
        | rt v => exact o1 r2 H2 g2 R2
        | ex c f v s2 => exact o1 r2 H2 g2 R2
/-! ### what is walked -/
abbrev MI := Sl → M (List Val)
def ItR (K : KK) (r0 : Rg) (H0 : Hp) (J : It) (xs : List Val) : Prop := ∀ (r : Rg) (h : AH) (H : Hp) (k : Nat), Vo r0 H0 r H → Rel K r h H →
  (xs[k]? = none → J.stop k H) ∧ ∀ v, xs[k]? = some v → J.go k H ∧ ∀ x H', J.yld k H x H' → Go r H r H' ∧ Rel K r h H' ∧ RV K r H' v x
def tI (K : KK) (W : WX) (m : MI) : TI := fun σ H Q => ∃ r h sl, Rel K r h H ∧ RSl K r H sl σ ∧ Out K r H (m sl h) (fun xs r' h' H' => ∀ J, ItR K r' H' J xs → Q J H') (fun cls d H' => W cls d σ H')
abbrev SI (X : Cx) (W : WX) (tg iter : Expr) (m : MI) : Prop := PI X tg iter (tI X.kk W m)
theorem PI.imp {X : Cx} {tg iter : Expr} {t t' : TI} (p : PI X tg iter t) (h : ∀ s H Q, t' s H Q → t s H Q) : PI X tg iter t' := ⟨fun pins s σ H R I q => p.run pins s σ H R I (h σ H R q)⟩
theorem PI.or {X : Cx} {tg iter : Expr} {t t' : TI} (p : PI X tg iter t) (p' : PI X tg iter t') : PI X tg iter (fun s H Q => t s H Q ∨ t' s H Q) := ⟨fun pins s σ H R I q => q.elim (p.run pins s σ H R I) (p'.run pins s σ H R I)⟩
def LsP (K : KK) (r : Rg) (H : Hp) (a : Addr) (xs : List Val) : Prop := ∀ r' H', Vo r H r' H' → ∃ us, SqL K H' a us ∧ RVs K r' H' xs us
/-- a list that is walked is never changed again -/
def fzI (v : Val) : M (List Val) := bnd (fzV v) fun w => lft fun _ => lsV [] w
theorem fzI_ok {r : Rg} {h : AH} {H : Hp} {v : Val} {u : V} {P : List Val → Rg → AH → Hp → Prop} {E : XK} (R : Rel K r h H) (q : RV K r H v u) (o : Out K r H (fzI v h) P E) :
    ∃ a xs r' h', u = .ref a ∧ Go r H r' H ∧ Rel K r' h' H ∧ LsP K r' H a xs ∧ P xs r' h' H := by
  unfold fzI fzV bnd lft at o
  dsimp only at o
  cases e : frz 8 v h with
  | none => rw [e] at o; exact o.elim
  | some z =>
    obtain ⟨w, h1⟩ := z
    rw [e] at o
    dsimp only at o
    obtain ⟨r1, m1, g1, R1, q1⟩ := frz_ok 8 v h w h1 r u R q e
    cases e2 : lsV [] w with
    | none => rw [e2] at o; exact o.elim
    | some xs =>
      rw [e2] at o
      have fin : ∀ a, u = .ref a → LsP K r1 H a xs → ∃ a xs r' h', u = .ref a ∧ Go r H r' H ∧ Rel K r' h' H ∧ LsP K r' H a xs ∧ P xs r' h' H := fun a ea l => ⟨a, xs, r1, h1, ea, g1, R1, l, o r1 H g1 R1⟩
      cases q1 with
      | @fl _ _ a us ys z e1 t =>
        cases e2
        refine fin a rfl fun r2 H2 g2 => ⟨us, SqL.of (g2.fh _ _ z e1), ?_⟩
        exact RVs.up (RVs.vo g2.lo t)
      | @sl _ _ a us ys z t =>
        cases e2
        refine fin a rfl fun r2 H2 g2 => ⟨us, fzl_sq (fzl_go g2.kp z), ?_⟩
        exact RVs.up (RVs.vo g2.lo t)
      | @ref _ _ n a ea => cases ea
      | _ => cases e2
theorem itr_list {r : Rg} {H : Hp} {a : Addr} {xs : List Val} (l : LsP K r H a xs) : ItR K r H (Itl K a) xs := by
  intro r1 h1 H1 k g R
  obtain ⟨us, s, t⟩ := l r1 H1 g
  refine ⟨fun e => ⟨us, s, by rw [t.length]; exact List.getElem?_eq_none_iff.mp e⟩, fun v e => ?_⟩
  obtain ⟨u, f1, f2⟩ := t.get e
  refine ⟨⟨us, u, s, f1⟩, fun x H' y => ?_⟩
  obtain ⟨rfl, y⟩ := y
  have e2 := y us s
  rw [f1] at e2
  cases e2
  exact ⟨Go.refl _ _, R, f2⟩
theorem itr_tup {r : Rg} {H : Hp} {a : Addr} {us : List V} {xs : List Val} (s : SqT K H a us) (t : RVs K r H xs us) : ItR K r H (Itt K a) xs := by
  intro r1 h1 H1 k g R
  have s1 := sqt_go g.kp s
  have t1 := t.vo g
  refine ⟨fun e => ⟨us, s1, by rw [t1.length]; exact List.getElem?_eq_none_iff.mp e⟩, fun v e => ?_⟩
  obtain ⟨u, f1, f2⟩ := t1.get e
  refine ⟨⟨us, u, s1, f1⟩, fun x H' y => ?_⟩
  obtain ⟨rfl, y⟩ := y
  have e2 := y us s1
  rw [f1] at e2
  cases e2
  exact ⟨Go.refl _ _, R, f2⟩
def strV (x : Str) : List Val := x.cps.toList.map fun c => .str ⟨#[c]⟩
theorem itr_str {r : Rg} {H : Hp} {x : Str} : ItR K r H (Its x) (strV x) := by
  intro r1 h1 H1 k g R
  have ec : x.cps.toList[k]? = x.cps[k]? := by rw [Array.getElem?_toList]
  unfold strV
  rw [List.getElem?_map]
  refine ⟨fun e => ?_, fun v e => ?_⟩
  · cases q : x.cps.toList[k]? with
    | some c => rw [q] at e; cases e
    | none =>
      have := List.getElem?_eq_none_iff.mp q
      show x.cps.size ≤ k
      simpa using this
  · cases q : x.cps.toList[k]? with
    | none => rw [q] at e; cases e
    | some c =>
      rw [q] at e
      cases e
      have hl := (List.getElem?_eq_some_iff.mp q).1
      refine ⟨(by show k < x.cps.size; simpa using hl), fun y H' z => ?_⟩
      obtain ⟨rfl, c', e1, rfl⟩ := z
      rw [ec, e1] at q
      cases q
      exact ⟨Go.refl _ _, R, .str _⟩
def rngV (lo : Int) (n : Nat) : List Val := (List.range n).map fun k => .int (lo + (k : Nat))
theorem itr_range {r : Rg} {H : Hp} {lo : Int} {n : Nat} : ItR K r H (Itr lo n) (rngV lo n) := by
  intro r1 h1 H1 k g R
  unfold rngV
  rw [List.getElem?_map]
  by_cases hk : k < n
  · have e0 : (List.range n)[k]? = some k := by rw [List.getElem?_range hk]
    rw [e0]
    refine ⟨fun e => (by cases e), fun v e => ?_⟩
    cases e
    refine ⟨hk, fun y H' z => ?_⟩
    obtain ⟨rfl, rfl⟩ := z
    exact ⟨Go.refl _ _, R, .int _⟩
  · have e0 : (List.range n)[k]? = none := List.getElem?_eq_none_iff.mpr (by rw [List.length_range]; omega)
    rw [e0]
    exact ⟨fun _ => Nat.le_of_not_lt hk, fun v e => by cases e⟩
def mIter (m : ME) : MI := fun sl => bnd (m sl) fun v => match v with
  | .tup xs => ret xs
  | .str x => ret (strV x)
  | v => fzI v
theorem si_any {tg l : Expr} {m : ME} (hl : SE X W l m) : SI X W tg l (mIter m) := PI.imp ((PI.or (PI.or (pi_list hl) (pi_tup hl)) (pi_str hl))) fun s H Q ⟨r, h, sl, R, S, o⟩ => by
  unfold mIter bnd at o
  cases q : m sl h with
  | bad => rw [q] at o; exact o.elim
  | exc c f v h1 => rw [q] at o; exact .inl (.inl ⟨r, h, sl, R, S, by rw [q]; exact o⟩)
  | ok v h1 =>
    rw [q] at o
    dsimp only at o
    have gen : Out X.kk r H (fzI v h1) (fun xs r' h' H' => ∀ J, ItR X.kk r' H' J xs → Q J H') (fun cls d H' => W cls d s H') → tE X.kk W m s H fun x H1 => ∃ l, x = V.ref l ∧ (∃ xs, SqL X.K H1 l xs) ∧ Q (Itl X.K l) H1 := fun o2 => by
      refine ⟨r, h, sl, R, S, ?_⟩
      rw [q]
      intro r1 H1 g1 R1 u q1
      obtain ⟨a, xs, r2, h2, rfl, g2, R2, l, k⟩ := fzI_ok R1 q1 (o2.base g1)
      obtain ⟨us, s', t⟩ := l r2 H1 (Vo.refl _ _)
      exact ⟨a, rfl, ⟨us, s'⟩, k _ (itr_list l)⟩
    cases v with
    | tup xs =>
      refine .inl (.inr ⟨r, h, sl, R, S, ?_⟩)
      rw [q]
      intro r1 H1 g1 R1 u q1
      cases q1 with
      | tup s t => exact ⟨_, rfl, ⟨_, s⟩, o r1 H1 g1 R1 _ (itr_tup s t)⟩
    | str y =>
      refine .inr ⟨r, h, sl, R, S, ?_⟩
      rw [q]
      intro r1 H1 g1 R1 u q1
      cases q1
      exact ⟨y, rfl, o r1 H1 g1 R1 _ itr_str⟩
    | ref n => exact .inl (.inl (gen o))
    | fl n => exact .inl (.inl (gen o))
    | sl n => exact .inl (.inl (gen o))
    | non => exact .inl (.inl (gen o))
    | bl _ => exact .inl (.inl (gen o))
    | int _ => exact .inl (.inl (gen o))
    | fd _ _ => exact .inl (.inl (gen o))
    | ft _ _ => exact .inl (.inl (gen o))
    | ob _ _ _ => exact .inl (.inl (gen o))
    | ex _ _ _ => exact .inl (.inl (gen o))
def rngOk (i : Int) : Bool := decide (-(2 ^ 62) ≤ i) && decide (i < 2 ^ 62)
def rng1 (vs : List Val) (_ : AH) : Option (List Val) := match vs with
  | [.int j] => if rngOk j then some (rngV 0 j.toNat) else none
  | _ => none
def rng2 (vs : List Val) (_ : AH) : Option (List Val) := match vs with
  | [.int i, .int j] => if rngOk i && rngOk j then some (rngV i (j - i).toNat) else none
  | _ => none
def mRng1 (t : MA) : MI := fun sl => bnd (t sl) fun vs => lft (rng1 vs)
def mRng2 (t : MA) : MI := fun sl => bnd (t sl) fun vs => lft (rng2 vs)
theorem rngOk_ok {i : Int} (h : rngOk i = true) : -(2 ^ 62) ≤ i ∧ i < 2 ^ 62 := by
  have q := Bool.and_eq_true_iff.mp h
  exact ⟨of_decide_eq_true q.1, of_decide_eq_true q.2⟩
theorem si_rng1 {tg a : Expr} {t : MA} {p : Pos} (hm : X.mg "range" = none) (ha : SA X W [a] t) (hg : Gl X "range" := by rfl) (hs : starEach [a] X.env = [(false, eval a X.env)] := by rfl) : SI X W tg (.Call (.Name "range" p) [a] [] pos) (mRng1 t) := PI.imp (pi_range1 hg hm ha hs) fun s H Q ⟨r, h, sl, R, S, o⟩ => by
  refine ⟨r, h, sl, R, S, o.split.mono fun vs r1 h1 H1 g1 R1 o1 us q1 => ?_⟩
  obtain ⟨xs, e, k⟩ := o1.lft
  unfold rng1 at e
  split at e
  · split at e
    · rename_i hj
      cases e
      obtain ⟨u, rfl, q2⟩ := q1.one
      cases q2
      exact ⟨_, rfl, (rngOk_ok hj).1, (rngOk_ok hj).2, k r1 H1 (Go.refl _ _) R1 _ itr_range⟩
    · cases e
  · cases e
theorem si_rng2 {tg a b : Expr} {t : MA} {p : Pos} (hm : X.mg "range" = none) (ha : SA X W [a, b] t) (hg : Gl X "range" := by rfl) (hs : starEach [a, b] X.env = [(false, eval a X.env), (false, eval b X.env)] := by rfl) (hs2 : starEach [b] X.env = [(false, eval b X.env)] := by rfl) : SI X W tg (.Call (.Name "range" p) [a, b] [] pos) (mRng2 t) := PI.imp (pi_range2 hg hm ha hs hs2) fun s H Q ⟨r, h, sl, R, S, o⟩ => by
  refine ⟨r, h, sl, R, S, o.split.mono fun vs r1 h1 H1 g1 R1 o1 us q1 => ?_⟩
  obtain ⟨xs, e, k⟩ := o1.lft
  unfold rng2 at e
  split at e
  · split at e
    · rename_i hj
      cases e
      have hq := Bool.and_eq_true_iff.mp hj
      obtain ⟨u, w, rfl, q2, q3⟩ := q1.two
      cases q2
      cases q3
      exact ⟨_, _, rfl, ⟨(rngOk_ok hq.1).1, (rngOk_ok hq.1).2, (rngOk_ok hq.2).1, (rngOk_ok hq.2).2⟩, k r1 H1 (Go.refl _ _) R1 _ itr_range⟩
    · cases e
  · cases e
/-- enumerate(list), zip(list, list) -/
def enumF : Nat → List Val → List Val
  | _, [] => []
  | k, x :: xs => .tup [.int (k : Nat), x] :: enumF (k + 1) xs
theorem enumF_get : ∀ (xs : List Val) (j k : Nat), (enumF j xs)[k]? = xs[k]?.map fun x => .tup [.int ((j + k : Nat) : Int), x]
  | [], j, k => by simp [enumF]
  | x :: xs, j, 0 => by simp [enumF]
  | x :: xs, j, k + 1 => by
    rw [enumF, List.getElem?_cons_succ, List.getElem?_cons_succ, enumF_get xs (j + 1) k]
    have : j + 1 + k = j + (k + 1) := by omega
    rw [this]
def mEnum (t : MA) : MI := fun sl => bnd (t sl) fun vs => match vs with
  | [v] => bnd (fzI v) fun xs => ret (enumF 0 xs)
  | _ => fail
theorem itr_enum {r : Rg} {H : Hp} {a : Addr} {xs : List Val} (l : LsP K r H a xs) : ItR K r H (Ite K a) (enumF 0 xs) := by
  intro r1 h1 H1 k g R
  obtain ⟨us, s, t⟩ := l r1 H1 g
  rw [enumF_get, Nat.zero_add]
  cases q2 : xs[k]? with
  | none => exact ⟨fun _ => ⟨us, s, by rw [t.length]; exact List.getElem?_eq_none_iff.mp q2⟩, fun v e => by cases e⟩
  | some y =>
    refine ⟨fun e => (by cases e), fun v e => ?_⟩
    cases e
    obtain ⟨u, f1, f2⟩ := t.get q2
    refine ⟨⟨us, u, s, f1⟩, fun x H' z => ?_⟩
    obtain ⟨T, w, rfl, nT, rfl, z⟩ := z
    have e2 := z us s
    rw [f1] at e2
    cases e2
    have g2 : Go r1 H1 r1 (upd H1 T (.tup [.int (k : Nat), u])) := go_new nT
    exact ⟨g2, R.newu nT, .tup (SqT.of upd_same) (.cons (.int _) (.cons (f2.go g2) .nil))⟩
theorem si_enum {a : Expr} {t : MA} {p tpos : Pos} {elts : List Expr} {kk : Nat} (hm : X.mg "enumerate" = none) (ha : SA X W [a] t) (hg : Gl X "enumerate" := by rfl) (hs : starEach [a] X.env = [(false, eval a X.env)] := by rfl) : SI X W (.Tuple elts kk tpos) (.Call (.Name "enumerate" p) [a] [] pos) (mEnum t) := PI.imp (pi_enum hg hm ha hs) fun s H Q ⟨r, h, sl, R, S, o⟩ => by
  refine ⟨r, h, sl, R, S, o.split.mono fun vs r1 h1 H1 g1 R1 o1 us q1 => ?_⟩
  match vs, o1 with
  | [v], o1 =>
    obtain ⟨u, rfl, q2⟩ := q1.one
    obtain ⟨a, xs, r2, h2, rfl, g2, R2, l, k⟩ := fzI_ok R1 q2 (Out.split o1)
    obtain ⟨ws, s', t⟩ := l r2 H1 (Vo.refl _ _)
    exact ⟨a, ws, rfl, s', k.now R2 _ (itr_enum l)⟩
def zipV (xs ys : List Val) : List Val := List.zipWith (fun x y => .tup [x, y]) xs ys
def mZip (t : MA) : MI := fun sl => bnd (t sl) fun vs => match vs with
  | [v, w] => bnd (fzI v) fun xs => bnd (fzI w) fun ys => ret (zipV xs ys)
  | _ => fail
theorem itr_zip {r : Rg} {H : Hp} {a b : Addr} {xs ys : List Val} (l : LsP K r H a xs) (l' : LsP K r H b ys) : ItR K r H (Itz K a b) (zipV xs ys) := by
  intro r1 h1 H1 k g R
  obtain ⟨us, s, t⟩ := l r1 H1 g
  obtain ⟨ws, s', t'⟩ := l' r1 H1 g
  unfold zipV
  rw [List.getElem?_zipWith]
  cases q2 : xs[k]? with
  | none => exact ⟨fun _ => ⟨us, ws, s, s', .inl (by rw [t.length]; exact List.getElem?_eq_none_iff.mp q2)⟩, fun v e => by cases e⟩
  | some x =>
    cases q3 : ys[k]? with
    | none => exact ⟨fun _ => ⟨us, ws, s, s', .inr (by rw [t'.length]; exact List.getElem?_eq_none_iff.mp q3)⟩, fun v e => by cases e⟩
    | some y =>
      refine ⟨fun e => (by cases e), fun v e => ?_⟩
      cases e
      obtain ⟨u, f1, f2⟩ := t.get q2
      obtain ⟨w, f3, f4⟩ := t'.get q3
      refine ⟨⟨us, ws, u, w, s, s', f1, f3⟩, fun z H' y => ?_⟩
      obtain ⟨T, x1, x2, rfl, nT, rfl, z1, z2⟩ := y
      have e2 := z1 us s
      rw [f1] at e2
      cases e2
      have e3 := z2 ws s'
      rw [f3] at e3
      cases e3
      have g2 : Go r1 H1 r1 (upd H1 T (.tup [u, w])) := go_new nT
      exact ⟨g2, R.newu nT, .tup (SqT.of upd_same) (.cons (f2.go g2) (.cons (f4.go g2) .nil))⟩
theorem si_zip {a b : Expr} {t : MA} {p tpos : Pos} {elts : List Expr} {kk : Nat} (hm : X.mg "zip" = none) (ha : SA X W [a, b] t) (hg : Gl X "zip" := by rfl) (hs : starEach [a, b] X.env = (false, eval a X.env) :: starEach [b] X.env := by rfl) (hpl : (backTo pos (starEach [b] X.env)).any (·.1) = false := by rfl) : SI X W (.Tuple elts kk tpos) (.Call (.Name "zip" p) [a, b] [] pos) (mZip t) := PI.imp (pi_zip hg hm ha hs hpl) fun s H Q ⟨r, h, sl, R, S, o⟩ => by
  refine ⟨r, h, sl, R, S, o.split.mono fun vs r1 h1 H1 g1 R1 o1 us q1 => ?_⟩
  match vs, o1 with
  | [v, w], o1 =>
    obtain ⟨u, u', rfl, q2, q3⟩ := q1.two
    obtain ⟨a, xs, r2, h2, rfl, g2, R2, l, k⟩ := fzI_ok R1 q2 (Out.split o1)
    obtain ⟨b, ys, r3, h3, rfl, g3, R3, l', k'⟩ := fzI_ok R2 (q3.go g2) (Out.split k)
    have l2 : LsP X.kk r3 H1 a xs := fun r' H' g => l r' H' (g3.toVo.trans g)
    obtain ⟨us, s', t⟩ := l2 r3 H1 (Vo.refl _ _)
    obtain ⟨ws, s'', t'⟩ := l' r3 H1 (Vo.refl _ _)
    exact ⟨a, b, us, ws, rfl, s', s'', k'.now R3 _ (itr_zip l2 l')⟩
/-! ### for -/
def forV (p : Pat) (body : MS) : List Val → MS
  | [] => fun sl h => some (.nx sl, h)
  | v :: vs => fun sl h => match p.bd v sl with
    | none => none
    | some sl1 => match body sl1 h with
      | some (.nx sl2, h2) => forV p body vs sl2 h2
      | some (.ct sl2, h2) => forV p body vs sl2 h2
      | some (.bk sl2, h2) => some (.nx sl2, h2)
      | z => z
def mFor (m : MI) (p : Pat) (body : MS) : MS := fun sl => sB (m sl) sl fun xs => forV p body xs sl
theorem drop_cons {α : Type} {xs : List α} {i : Nat} {v : α} {vs : List α} (e : xs.drop i = v :: vs) : xs[i]? = some v ∧ vs = xs.drop (i + 1) := by
  have hi : i < xs.length := by
    have : (xs.drop i).length = (v :: vs).length := by rw [e]
    rw [List.length_drop, List.length_cons] at this
    omega
  rw [List.drop_eq_getElem_cons hi] at e
  obtain ⟨e1, e2⟩ := List.cons.inj e
  exact ⟨by rw [List.getElem?_eq_getElem hi, e1], e2.symm⟩
theorem drop_nil {α : Type} {xs : List α} {i : Nat} (e : xs.drop i = []) : xs[i]? = none := List.getElem?_eq_none_iff.mpr (List.drop_eq_nil_iff.mp e)
theorem ss_for {tg iter : Expr} {body : List Stmt} {mi : MI} {p : Pat} {mb : MS} (hp : PassesOwn (model X.prog X.w) X.A X.env X.xe) (hc : X.calm = true) (hi : SI X W tg iter mi) (hg : SG X tg p) (hb : SSs X W body mb) (hs : ∀ x, foldedSetIterable iter X.env x = pure x := by intro _; rfl) :
    SS X W (.For tg iter body [] pos) (mFor mi p mb) := by
  refine PS.imp (ps_for hp hc hi hg hb hs) fun D s H ⟨r, h, sl, R, S, o⟩ => ?_
  refine ⟨r, h, sl, R, S, (OutS.sB o S).mono fun xs r1 h1 H1 g1 R1 o1 J iT => ?_⟩
  refine ⟨fun i n s H => n = (xs.drop i).length ∧ ∃ r h sl, Rel X.kk r h H ∧ RSl X.kk r H sl s ∧ Go r1 H1 r H ∧ OutS X.kk W D r H (forV p mb (xs.drop i) sl h), ⟨_, rfl, r1, h1, sl, R1, S.go g1, Go.refl _ _, o1⟩, ?_⟩
  rintro i n s H ⟨rfl, r, h, sl, R, S, gg, o⟩
  obtain ⟨i1, i2⟩ := iT r h H i gg.toVo R
  cases q1 : xs.drop i with
  | nil =>
    rw [q1] at o
    exact .inl ⟨i1 (drop_nil q1), OutS.now o R s S⟩
  | cons v vs =>
    obtain ⟨ev, evs⟩ := drop_cons q1
    rw [q1] at o
    obtain ⟨j1, j2⟩ := i2 v ev
    refine .inr ⟨j1, fun s H => ∃ r h sl, Rel X.kk r h H ∧ RSl X.kk r H sl s ∧ Go r1 H1 r H ∧ OutS X.kk W D r H (forV p mb (xs.drop (i + 1)) sl h), fun s' H' z => ⟨_, by rw [← evs]; exact Nat.lt_succ_self _, rfl, z⟩, fun x H' y => ?_⟩
    obtain ⟨k2, R2, q2⟩ := j2 x H' y
    unfold forV at o
    try dsimp only at o
    cases q3 : p.bd v sl with
    | none => rw [q3] at o; exact o.elim
    | some sl1 =>
      rw [q3] at o
      dsimp only at o
      obtain ⟨s', S', _, kk⟩ := Pat.run p q2 (S.go k2) q3
      refine kk _ ⟨r, h, sl1, R2, S', ?_⟩
      cases q4 : mb sl1 h with
      | none => rw [q4] at o; exact o
      | some z =>
        obtain ⟨f2, h2⟩ := z
        rw [q4] at o
        intro r3 H3 k3 R3
        cases f2 with
        | nx sl2 => exact fun s2 S2 => ⟨r3, h2, sl2, R3, S2, gg.trans (k2.trans k3), by rw [← evs]; exact OutS.base o (k2.trans k3)⟩
        | ct sl2 => exact fun s2 S2 => ⟨r3, h2, sl2, R3, S2, gg.trans (k2.trans k3), by rw [← evs]; exact OutS.base o (k2.trans k3)⟩
        | bk sl2 => exact o r3 H3 (k2.trans k3) R3
        | rt v => exact o r3 H3 (k2.trans k3) R3
        | ex c f v s2 => exact o r3 H3 (k2.trans k3) R3
/-! ### comprehensions -/
def wipeM (sl : Sl) : List Nat → Sl
  | [] => sl
  | v :: vs => (wipeM sl vs).set v none
theorem RSl.wipe {r : Rg} {H : Hp} {sl : Sl} {s : L2.St} (S : RSl K r H sl s) : ∀ vs : List Nat, RSl K r H (wipeM sl vs) (L2.wipe s vs)
  | [] => S
  | v :: vs => by
    unfold wipeM L2.wipe
    exact (RSl.wipe S vs).none
/-- raising is out of reach -/
def nX {α : Type} (m : M α) : M α := fun h => match m h with
  | .exc _ _ _ _ => .bad
  | z => z
def lcV (p : Pat) (t : MT) (el : ME) (sl : Sl) : List Val → List Val → M (List Val)
  | [], acc => ret acc
  | v :: vs, acc => match p.bd v sl with
    | none => fail
    | some sl1 => bnd (nX (t sl1)) fun b => if b = true then bnd (nX (el sl1)) fun y => (if sizeOk (acc.length + 1) then lcV p t el sl vs (acc ++ [y]) else fail) else lcV p t el sl vs acc
def mLc (m : MI) (p : Pat) (t : MT) (el : ME) (own : List Nat) : MN := fun sl => bnd (m sl) fun xs => bnd (lcV p t el (wipeM sl own) xs []) fun ys => ret (.n ys)
def mYes : MT := fun _ => ret true
abbrev STs (X : Cx) (W : WX) (es : List Expr) (m : MT) : Prop := PTs X es (tT X.kk W m)
theorem PTs.imp {X : Cx} {e : List Expr} {t t' : TT} (p : PTs X e t) (h : ∀ s H Q, t' s H Q → t s H Q) : PTs X e t' := ⟨fun pins s σ H Q I q => p.run pins s σ H Q I (h σ H Q q)⟩
theorem sts_nil : STs X W [] mYes := PTs.imp pts_nil fun s H Q ⟨r, h, sl, R, S, o⟩ => o.now R
theorem sts_one {c : Expr} {t : MT} (h : ST X W c t) : STs X W [c] t := pts_one h
/-- nothing may be raised -/
abbrev W0 : WX := fun _ _ _ _ => False
theorem Out.nX {α : Type} {r : Rg} {H : Hp} {m : M α} {h : AH} {P : α → Rg → AH → Hp → Prop} {E E' : XK} (o : Out K r H (nX m h) P E) : Out K r H (m h) P E' := by
  unfold Mr.nX at o
  cases q : m h with
  | ok a h1 => rw [q] at o; exact o
  | exc _ _ _ _ => rw [q] at o; exact o.elim
  | bad => rw [q] at o; exact o.elim
theorem Out.keep {α β : Type} {r r' : Rg} {H H' : Hp} {m : M α} {f : α → M β} {h : AH} {P : β → Rg → AH → Hp → Prop} {E : XK} (o : Out K r H (bnd m f h) P E) (g : Go r H r' H') : Out K r' H' (m h) (fun a r1 h1 H1 => Out K r H (f a h1) P E) E := by
  unfold bnd at o
  cases q : m h with
  | ok a h1 => rw [q] at o; exact fun _ _ _ _ => o
  | exc _ _ _ _ => rw [q] at o; exact fun r2 H2 u d C g2 R2 => o r2 H2 u d C (g.trans g2) R2
  | bad => rw [q] at o; exact o
/-- a list that nobody knows is changed -/
theorem vo_loose {r : Rg} {H : Hp} {D : Addr} {us ws : List V} (e : H D = some (.lst us)) (n : ¬ r.fz D) : Vo r H r (upd H D (.lst ws)) := by
  refine ⟨fun _ _ e => e, ⟨fun b xs q => ?_, fun b o w q => ?_, fun b xs q => ?_, fun b o w q => ?_⟩, fun _ z => z, fun b o z q => ?_⟩
  · have ne : b ≠ D := fun z => by subst z; rw [e] at q; cases q
    rw [upd_ne ne]; exact q
  · have ne : b ≠ D := fun z => by subst z; rw [e] at q; cases q
    rw [upd_ne ne]; exact q
  · have ne : b ≠ D := fun z => by subst z; rw [e] at q; cases q
    rw [upd_ne ne]; exact q
  · have ne : b ≠ D := fun z => by
      subst z
      rw [e] at q
      have q2 := Option.some.inj q
      unfold exk at q2
      cases q2
    rw [upd_ne ne]; exact q
  · have ne : b ≠ D := fun y => n (y ▸ z)
    rw [upd_ne ne]; exact q
theorem Rel.loose {r : Rg} {h : AH} {H : Hp} {D : Addr} {us ws : List V} (R : Rel K r h H) (e : H D = some (.lst us)) (n1 : D ∉ r.m) (n : ¬ r.fz D) : Rel K r h (upd H D (.lst ws)) := by
  have some_ : ∀ b, (∃ w, H b = some w) → ∃ w, upd H D (.lst ws) b = some w := fun b ⟨w, hw⟩ => by
    by_cases hb : b = D
    · exact ⟨_, by rw [hb, upd_same]⟩
    · exact ⟨w, by rw [upd_ne hb]; exact hw⟩
  refine ⟨R.len, R.nd, fun i a o e1 e2 => (R.ob i a o e1 e2).go (vo_loose e n) fun _ => upd_ne fun z => n1 (z ▸ List.mem_of_getElem? e1), R.mz, fun b z => some_ b (R.fd b z), fun b z => some_ b (R.md b z)⟩
theorem Go.loose {r r' : Rg} {H H' : Hp} {D : Addr} {o : HO} (g : Go r H r' H') (nD : H D = Option.none) (n : ¬ r.fz D) : Go r H r' (upd H' D o) := by
  have k : ∀ a u, H a = some u → H' a = some u → upd H' D o a = some u := fun a u e e' => by rw [upd_ne (ne_of_none e nD)]; exact e'
  exact ⟨⟨g.pre, ⟨fun a xs e => k a _ e (g.kp.tup a xs e), fun a o u e => k a _ e (g.kp.frz a o u e), fun a xs e => k a _ e (g.kp.xd a xs e), fun a c d e => k a _ e (g.kp.ek a c d e)⟩, g.fz, fun a u z e => k a u e (g.fh a u z e)⟩, fun a u e hm => k a u e (g.fr a u e hm), g.nw, g.fn⟩
theorem wipe_idem (s : L2.St) (vs : List Nat) : L2.wipe (L2.wipe s vs) vs = L2.wipe s vs := by
  have gen : ∀ (ws us : List Nat), (∀ i ∈ ws, i ∈ us) → L2.wipe (L2.wipe s us) ws = L2.wipe s us := fun ws => by
    induction ws with
    | nil => intro us _; rfl
    | cons j ws ih =>
      intro us hs
      rw [L2.wipe, ih us fun i hi => hs i (List.mem_cons_of_mem _ hi)]
      have hj : j ∈ us := hs j List.mem_cons_self
      have : ∀ {us : List Nat}, j ∈ us → (L2.wipe s us).set j none = L2.wipe s us := fun {us} => by
        induction us with
        | nil => intro h; cases h
        | cons k us ihu =>
          intro h
          unfold L2.wipe
          by_cases e : j = k
          · subst e; rw [List.set_set]
          · rw [List.set_comm _ _ (Ne.symm e)]
            rw [ihu ((List.mem_cons.mp h).resolve_left e)]
      exact this hj
  exact gen vs vs fun _ h => h
theorem mLc_run {mi : MI} {p : Pat} {t : MT} {el : ME} {own : List Nat} (hn : ∀ i ∈ p.names, i ∈ own) {s : L2.St} {H : Hp} {Q : VK} (z : tN K W (mLc mi p t el own) s H Q) : tLc (tI K W mi) (p.tg K) (tT K W0 t) (tE K W0 el) own s H Q := by
  obtain ⟨r, h, sl, R, S, o⟩ := z
  refine ⟨r, h, sl, R, S, o.split.mono fun xs r1 h1 H1 g1 R1 o1 J iT D nD => ?_⟩
  have nz : ¬ r1.fz D := fun z => by obtain ⟨u, e⟩ := R1.fd D z; rw [nD] at e; cases e
  have nm : D ∉ r1.m := fun z => by obtain ⟨u, e⟩ := R1.md D z; rw [nD] at e; cases e
  refine ⟨fun i n H' => n = (xs.drop i).length ∧ ∃ r h acc us, Rel K r h H' ∧ Go r1 H1 r H' ∧ H' D = some (.lst us) ∧ D ∉ r.m ∧ ¬ r.fz D ∧ RVs K r H' acc us ∧
    Out K r1 H1 (bnd (lcV p t el (wipeM sl own) (xs.drop i) acc) (fun ys => ret (NV.n ys)) h) (fun z r' h' H' => NK K H Q z r' H') (fun cls d H' => W cls d s H'),
    ⟨_, rfl, r1, h1, [], [], R1.newu nD, go_new nD, upd_same, nm, nz, .nil, o1⟩, ?_⟩
  rintro i n H2 ⟨rfl, r2, h2, acc, us, R2, g2, hD, n1, n2, qa, o2⟩
  obtain ⟨i1, i2⟩ := iT r2 h2 H2 i g2.toVo R2
  cases q1 : xs.drop i with
  | nil =>
    rw [q1] at o2
    exact .inl ⟨i1 (drop_nil q1), o2 r2 H2 g2 R2 D us (g1.none R1 nD) hD n1 n2 qa⟩
  | cons v vs =>
    obtain ⟨ev, evs⟩ := drop_cons q1
    rw [q1] at o2
    obtain ⟨j1, j2⟩ := i2 v ev
    refine .inr ⟨j1, fun H' => ∃ r h acc us, Rel K r h H' ∧ Go r1 H1 r H' ∧ H' D = some (.lst us) ∧ D ∉ r.m ∧ ¬ r.fz D ∧ RVs K r H' acc us ∧
      Out K r1 H1 (bnd (lcV p t el (wipeM sl own) (xs.drop (i + 1)) acc) (fun ys => ret (NV.n ys)) h) (fun z r' h' H' => NK K H Q z r' H') (fun cls d H' => W cls d s H'), fun H' z => ⟨_, by rw [← evs]; exact Nat.lt_succ_self _, rfl, z⟩, fun x H' y => ?_⟩
    obtain ⟨k2, R3, q2⟩ := j2 x H' y
    unfold lcV at o2
    cases q3 : p.bd v (wipeM sl own) with
    | none => rw [q3] at o2; exact o2.elim
    | some sl1 =>
      rw [q3] at o2
      dsimp only at o2
      have g3 := g2.trans k2
      obtain ⟨s', S', w', kk⟩ := Pat.run p q2 ((S.go (g1.trans g3)).wipe own) q3
      -- the unknown list stays
      have stay : ∀ {r r' : Rg} {H H' : Hp}, Go r H r' H' → H D = some (.lst us) → D ∉ r.m → ¬ r.fz D → H' D = some (.lst us) ∧ D ∉ r'.m ∧ ¬ r'.fz D := fun {r r' H H'} g e a b =>
        ⟨g.fr D _ e a, fun z => (g.nw D z).elim a (fun y => by rw [e] at y; cases y), fun z => (g.fn D z).elim b (fun y => y.elim a (fun y => by rw [e] at y; cases y))⟩
      obtain ⟨hD3, n13, n23⟩ := stay k2 hD n1 n2
      refine kk _ ⟨by rw [w' own hn]; exact wipe_idem s own, r2, h2, sl1, R3, S', ?_⟩
      have o3 : Out K r1 H1 (bnd (nX (t sl1)) (fun b => bnd (if b = true then bnd (nX (el sl1)) fun y => (if sizeOk (acc.length + 1) then lcV p t el (wipeM sl own) vs (acc ++ [y]) else fail) else lcV p t el (wipeM sl own) vs acc) (fun ys => ret (NV.n ys))) h2) (fun z r' h' H' => NK K H Q z r' H') (fun cls d H' => W cls d s H') := by
        have e0 : bnd (bnd (nX (t sl1)) fun b => if b = true then bnd (nX (el sl1)) fun y => (if sizeOk (acc.length + 1) then lcV p t el (wipeM sl own) vs (acc ++ [y]) else fail) else lcV p t el (wipeM sl own) vs acc) (fun ys => ret (NV.n ys)) h2 = bnd (nX (t sl1)) (fun b => bnd (if b = true then bnd (nX (el sl1)) fun y => (if sizeOk (acc.length + 1) then lcV p t el (wipeM sl own) vs (acc ++ [y]) else fail) else lcV p t el (wipeM sl own) vs acc) (fun ys => ret (NV.n ys))) h2 := by
          unfold bnd
          cases nX (t sl1) h2 <;> rfl
        rw [← e0]
        exact o2
      refine (Out.keep o3 g3).nX.mono fun b r4 h4 H4 g4 R4 o4 => ?_
      obtain ⟨hD4, n14, n24⟩ := stay g4 hD3 n13 n23
      have qa4 := qa.go (k2.trans g4)
      cases b with
      | false => exact iteF ⟨r4, h4, acc, us, R4, g3.trans g4, hD4, n14, n24, qa4, by rw [← evs]; exact o4⟩
      | true =>
        refine iteT ⟨r4, h4, sl1, R4, S'.go g4, ?_⟩
        rw [if_pos rfl] at o4
        have o5 : Out K r1 H1 (bnd (nX (el sl1)) (fun y => bnd (if sizeOk (acc.length + 1) then lcV p t el (wipeM sl own) vs (acc ++ [y]) else fail) (fun ys => ret (NV.n ys))) h4) (fun z r' h' H' => NK K H Q z r' H') (fun cls d H' => W cls d s H') := by
          have e0 : bnd (bnd (nX (el sl1)) fun y => if sizeOk (acc.length + 1) then lcV p t el (wipeM sl own) vs (acc ++ [y]) else fail) (fun ys => ret (NV.n ys)) h4 = bnd (nX (el sl1)) (fun y => bnd (if sizeOk (acc.length + 1) then lcV p t el (wipeM sl own) vs (acc ++ [y]) else fail) (fun ys => ret (NV.n ys))) h4 := by
            unfold bnd
            cases nX (el sl1) h4 <;> rfl
          rw [← e0]
          exact o4
        refine (Out.keep o5 (g3.trans g4)).nX.mono fun w r5 h5 H5 g5 R5 o6 u q5 => ?_
        obtain ⟨hD5, n15, n25⟩ := stay g5 hD4 n14 n24
        split at o6
        · rename_i hs
          have vl : Vo r5 H5 r5 (upd H5 D (.lst (us ++ [u]))) := vo_loose hD5 n25
          refine ⟨us, hD5, ?_, r5, h5, acc ++ [w], us ++ [u], R5.loose hD5 n15 n25, (g3.trans (g4.trans g5)).loose nD nz, upd_same, n15, n25, (RVs.vo vl (qa4.go g5)).append (.cons (RV.vo vl q5) .nil), by rw [← evs]; exact o6⟩
          have := sizeOk_le hs
          rw [qa4.length]
          omega
        · exact o6.elim
theorem sn_lc {elt tg iter : Expr} {ifs : List Expr} {scope : Scope} {own : List (Str × Nat)} {mi : MI} {p : Pat} {t : MT} {el : ME} (hc : X.calm = true) (hN : X.N.Nodup) (hi : SI X W tg iter mi) (ok : BlkOk X.N X.env.scope scope own)
    (hg : ∀ (s : Shared) (H : Hp) (C : Addr) (cl : List (Str × Addr)) (fp : List Addr), SG (X.blk s H scope (compEnvC scope cl C X.env) fp) tg p) (ht : ∀ (s : Shared) (H : Hp) (C : Addr) (cl : List (Str × Addr)) (fp : List Addr), STs (X.blk s H scope (compEnvC scope cl C X.env) fp) W0 ifs t)
    (he : ∀ (s : Shared) (H : Hp) (C : Addr) (cl : List (Str × Addr)) (fp : List Addr), SE (X.blk s H scope (compEnvC scope cl C X.env) fp) W0 elt el) (hn : ∀ i ∈ p.names, i ∈ own.map (·.2) := by decide) (hs : ∀ x, foldedSetIterable iter X.env x = pure x := by intro _; rfl) :
    SN X W (.ListComp elt [⟨tg, iter, ifs, 0⟩] scope pos) (mLc mi p t el (own.map (·.2))) :=
  PE.imp (pe_lc hc hN hi ok hg ht he hs) fun _ _ _ z => mLc_run hn z
/-- y = [..], where the store is swapped -/
theorem ss_setLc {i : Nat} {y : Str} {py : Pos} {elt tg iter : Expr} {ifs : List Expr} {scope : Scope} {own : List (Str × Nat)} {spos : Pos} {mi : MI} {p : Pat} {t : MT} {el : ME} {f : MN → ME} (hf : ∀ {m : MN} {s : L2.St} {H : Hp} {Q : VK}, tE X.kk W (f m) s H Q → tN X.kk W m s H Q) (hc : X.calm = true) (hN : X.N.Nodup)
    (hsw : swapsWith (.ListComp elt [⟨tg, iter, ifs, 0⟩] scope pos) (some (.Name y py)) spos.line X.env = pure true) (hi : SI X W tg iter mi) (ok : BlkOk X.N X.env.scope scope own)
    (hg : ∀ (s : Shared) (H : Hp) (C : Addr) (cl : List (Str × Addr)) (fp : List Addr), SG (X.blk s H scope (compEnvC scope cl C X.env) fp) tg p) (ht : ∀ (s : Shared) (H : Hp) (C : Addr) (cl : List (Str × Addr)) (fp : List Addr), STs (X.blk s H scope (compEnvC scope cl C X.env) fp) W0 ifs t)
    (he : ∀ (s : Shared) (H : Hp) (C : Addr) (cl : List (Str × Addr)) (fp : List Addr), SE (X.blk s H scope (compEnvC scope cl C X.env) fp) W0 elt el) (hy : X.N[i]? = some y := by rfl) (hyl : X.env.scope.names.lookup y = some .local := by rfl) (hn : ∀ i ∈ p.names, i ∈ own.map (·.2) := by decide) (hs : ∀ x, foldedSetIterable iter X.env x = pure x := by intro _; rfl) :
    SS X W (.Assign [.Name y py] (.ListComp elt [⟨tg, iter, ifs, 0⟩] scope pos) spos) (mSet i (f (mLc mi p t el (own.map (·.2))))) :=
  PS.imp (ps_setLc hc hN hy hyl hsw hi ok hg ht he hs) fun D s H z => mLc_run hn (hf (by
    obtain ⟨r, h, sl, R, S, o⟩ := z
    exact ⟨r, h, sl, R, S, (OutS.sB o S).mono fun x r1 h1 H1 g1 R1 o1 u q1 => OutS.now o1 R1 _ ((S.go g1).set q1)⟩))
end
end Mr

set_option Elab.async false
set_option linter.all false
set_option maxRecDepth 100000
set_option maxHeartbeats 1000000
namespace Mr
open PySem PySem.Spec PyProof.Rows L2
def lfh {α : Type} (f : AH → Option (α × AH)) : M α := fun h => match f h with
  | some (a, h') => .ok a h'
  | none => .bad
theorem Out.lfh {K : KK} {r : Rg} {H : Hp} {E : XK} {α : Type} {f : AH → Option (α × AH)} {h : AH} {P : α → Rg → AH → Hp → Prop} (o : Out K r H (Mr.lfh f h) P E) : ∃ a h', f h = some (a, h') ∧ ∀ r' H', Go r H r' H' → Rel K r' h' H' → P a r' h' H' := by
  unfold Mr.lfh at o
  cases q : f h with
  | some z => obtain ⟨a, h'⟩ := z; rw [q] at o; exact ⟨a, h', rfl, o⟩
  | none => rw [q] at o; exact o.elim
section
variable {X : Cx} {W : WX} {K : KK} {pos : Pos} {o a e : Expr} {es : List Expr} {mo ma : ME} {mt : MA}
/-! ### methods of built-in things -/
def isTy (T : String) (h : AH) : Val → Bool
  | .str _ => T == "str"
  | .fl _ => T == "list"
  | .sl _ => T == "list"
  | .fd _ _ => T == "dict"
  | .ref n => match h[n]? with
    | some (.lst _) => T == "list"
    | some (.fz (.fl _)) => T == "list"
    | some (.dk _ _) => T == "dict"
    | _ => false
  | _ => false
theorem Rel.tyV {r : Rg} {h : AH} {H : Hp} {T : String} {x : Val} {u : V} (R : Rel K r h H) (q : RV K r H x u) (e : isTy T h x = true) : L2.tyV K T u H := by
  cases q with
  | str y => exact eq_of_beq e
  | fl z e1 t => exact .inl ⟨eq_of_beq e, _, SqL.of e1⟩
  | sl z t => exact .inl ⟨eq_of_beq e, _, fzl_sq z⟩
  | fd z e1 _ _ => exact .inr (.inr (.inl ⟨eq_of_beq e, .inl ⟨_, e1⟩⟩))
  | @ref _ _ n a ea =>
    unfold isTy at e
    dsimp only at e
    split at e
    · rename_i q1
      obtain ⟨us, f1, f2⟩ := R.ob n a _ ea q1
      exact .inl ⟨eq_of_beq e, us, SqL.of f1⟩
    · rename_i ys q1
      have q2 : RV K r.lo H (.fl ys) (.ref a) := R.ob n a _ ea q1
      cases q2 with
      | fl z e1 e2 => exact .inl ⟨eq_of_beq e, _, SqL.of e1⟩
    · rename_i q1
      obtain ⟨us, f1, f2⟩ := R.ob n a _ ea q1
      exact .inr (.inr (.inl ⟨eq_of_beq e, .inl ⟨_, f1⟩⟩))
    · cases e
  | _ => cases e
def tyC (T : String) (x : Val) (h : AH) : Option Unit := if isTy T h x then some () else none
def MeM (K : KK) (q : V → List V → Hp → VK → Prop) (o : Val → List Val → AH → Option Val) : Prop := ∀ (r : Rg) (h : AH) (H : Hp) (x : Val) (xs : List Val) (u : V) (us : List V) (z : Val) (Q : VK), Rel K r h H → RV K r H x u → RVs K r H xs us → o x xs h = some z → (∀ r' H', Go r H r' H' → Rel K r' h H' → ∀ v, RV K r' H' z v → Q v H') → q u us H Q
def MeH (K : KK) (q : V → List V → Hp → VK → Prop) (o : Val → List Val → AH → Option (Val × AH)) : Prop := ∀ (r : Rg) (h : AH) (H : Hp) (x : Val) (xs : List Val) (u : V) (us : List V) (z : Val) (h' : AH) (Q : VK), Rel K r h H → RV K r H x u → RVs K r H xs us → o x xs h = some (z, h') → (∀ r' H', Go r H r' H' → Rel K r' h' H' → ∀ v, RV K r' H' z v → Q v H') → q u us H Q
def MeN (K : KK) (q : V → List V → Hp → VK → Prop) (o : Val → List Val → AH → Option NV) : Prop := ∀ (r : Rg) (h : AH) (H : Hp) (x : Val) (xs : List Val) (u : V) (us : List V) (z : NV) (Q : VK), Rel K r h H → RV K r H x u → RVs K r H xs us → o x xs h = some z → (∀ r' H', Go r H r' H' → Rel K r' h H' → NK K H Q z r' H') → q u us H Q
def mMeth (T : String) (f : Val → List Val → AH → Option Val) (mo : ME) (t : MA) : ME := fun sl => bnd (mo sl) fun x => bnd (lft (tyC T x)) fun _ => bnd (t sl) fun xs => lft (f x xs)
def mMethH (T : String) (f : Val → List Val → AH → Option (Val × AH)) (mo : ME) (t : MA) : ME := fun sl => bnd (mo sl) fun x => bnd (lft (tyC T x)) fun _ => bnd (t sl) fun xs => lfh (f x xs)
def mMethN (T : String) (f : Val → List Val → AH → Option NV) (mo : ME) (t : MA) : MN := fun sl => bnd (mo sl) fun x => bnd (lft (tyC T x)) fun _ => bnd (t sl) fun xs => lft (f x xs)
theorem tyC_ok {T : String} {x : Val} {h : AH} {u : Unit} (e : tyC T x h = some u) : isTy T h x = true := by
  unfold tyC at e
  split at e
  · assumption
  · cases e
variable {T : String} {name : Str} {id : String} {q : V → List V → Hp → VK → Prop} {apos cpos : Pos}
theorem se_meth {f : Val → List Val → AH → Option Val} (pa : PlainAttrs T) (slot : Slot T name id) (hty : typeOf (.builtin id) = pure (.type "method_descriptor")) (hm : MtR X id q) (hf : MeM X.kk q f) (ho : SE X W o mo) (ha : SA X W (e :: es) mt)
    (hbase : attributeBase o name X.env (eval o X.env) = eval o X.env := by rfl)
    (hfew : ((backTo cpos (starEach (e :: es) X.env)).all (fun x => !x.1) && (backToKw cpos (keywordEach [] X.env)).all (fun x => x.1.isSome)
      && decide ((e :: es).length + ([] : List Keyword).length + (if ([] : List Keyword).isEmpty then 0 else 1) < 30)) = true := by rfl)
    (hline : (apos.endLine == cpos.line) = true := by rfl) (hs : starEach (e :: es) X.env = (false, eval e X.env) :: starEach es X.env := by rfl) (hplain : (backTo cpos (starEach es X.env)).any (·.1) = false := by rfl) :
    SE X W (.Call (.Attribute o name apos) (e :: es) [] cpos) (mMeth T f mo mt) :=
  PE.imp (pe_bm pa slot hty hm ho ha hbase hfew hline hs hplain) fun s H Q ⟨r, h, sl, R, S, o1⟩ => by
    refine ⟨r, h, sl, R, S, o1.split.mono fun x r1 h1 H1 g1 R1 o2 u q1 => ?_⟩
    obtain ⟨w, ht, k1⟩ := (Out.split o2).lft
    refine ⟨R1.tyV q1 (tyC_ok ht), r1, h1, sl, R1, S.go g1, (Out.split (k1 r1 H1 (Go.refl _ _) R1)).mono fun xs r2 h2 H2 g2 R2 o3 us q2 => ?_⟩
    obtain ⟨v, e, k⟩ := o3.lft
    exact hf r2 h2 H2 x xs u us v Q R2 (q1.go g2) q2 e k
theorem se_methH {f : Val → List Val → AH → Option (Val × AH)} (pa : PlainAttrs T) (slot : Slot T name id) (hty : typeOf (.builtin id) = pure (.type "method_descriptor")) (hm : MtR X id q) (hf : MeH X.kk q f) (ho : SE X W o mo) (ha : SA X W (e :: es) mt)
    (hbase : attributeBase o name X.env (eval o X.env) = eval o X.env := by rfl)
    (hfew : ((backTo cpos (starEach (e :: es) X.env)).all (fun x => !x.1) && (backToKw cpos (keywordEach [] X.env)).all (fun x => x.1.isSome)
      && decide ((e :: es).length + ([] : List Keyword).length + (if ([] : List Keyword).isEmpty then 0 else 1) < 30)) = true := by rfl)
    (hline : (apos.endLine == cpos.line) = true := by rfl) (hs : starEach (e :: es) X.env = (false, eval e X.env) :: starEach es X.env := by rfl) (hplain : (backTo cpos (starEach es X.env)).any (·.1) = false := by rfl) :
    SE X W (.Call (.Attribute o name apos) (e :: es) [] cpos) (mMethH T f mo mt) :=
  PE.imp (pe_bm pa slot hty hm ho ha hbase hfew hline hs hplain) fun s H Q ⟨r, h, sl, R, S, o1⟩ => by
    refine ⟨r, h, sl, R, S, o1.split.mono fun x r1 h1 H1 g1 R1 o2 u q1 => ?_⟩
    obtain ⟨w, ht, k1⟩ := (Out.split o2).lft
    refine ⟨R1.tyV q1 (tyC_ok ht), r1, h1, sl, R1, S.go g1, (Out.split (k1 r1 H1 (Go.refl _ _) R1)).mono fun xs r2 h2 H2 g2 R2 o3 us q2 => ?_⟩
    obtain ⟨v, h', e, k⟩ := o3.lfh
    exact hf r2 h2 H2 x xs u us v h' Q R2 (q1.go g2) q2 e k
theorem sn_meth {f : Val → List Val → AH → Option NV} (pa : PlainAttrs T) (slot : Slot T name id) (hty : typeOf (.builtin id) = pure (.type "method_descriptor")) (hm : MtR X id q) (hf : MeN X.kk q f) (ho : SE X W o mo) (ha : SA X W (e :: es) mt)
    (hbase : attributeBase o name X.env (eval o X.env) = eval o X.env := by rfl)
    (hfew : ((backTo cpos (starEach (e :: es) X.env)).all (fun x => !x.1) && (backToKw cpos (keywordEach [] X.env)).all (fun x => x.1.isSome)
      && decide ((e :: es).length + ([] : List Keyword).length + (if ([] : List Keyword).isEmpty then 0 else 1) < 30)) = true := by rfl)
    (hline : (apos.endLine == cpos.line) = true := by rfl) (hs : starEach (e :: es) X.env = (false, eval e X.env) :: starEach es X.env := by rfl) (hplain : (backTo cpos (starEach es X.env)).any (·.1) = false := by rfl) :
    SN X W (.Call (.Attribute o name apos) (e :: es) [] cpos) (mMethN T f mo mt) :=
  PE.imp (pe_bm pa slot hty hm ho ha hbase hfew hline hs hplain) fun s H Q ⟨r, h, sl, R, S, o1⟩ => by
    refine ⟨r, h, sl, R, S, o1.split.mono fun x r1 h1 H1 g1 R1 o2 u q1 => ?_⟩
    obtain ⟨w, ht, k1⟩ := (Out.split o2).lft
    refine ⟨R1.tyV q1 (tyC_ok ht), r1, h1, sl, R1, S.go g1, (Out.split (k1 r1 H1 (Go.refl _ _) R1)).mono fun xs r2 h2 H2 g2 R2 o3 us q2 => ?_⟩
    obtain ⟨v, e, k⟩ := o3.lft
    exact hf r2 h2 H2 x xs u us v Q R2 (q1.go g2) q2 e fun r3 H3 g3 R3 => (k r3 H3 g3 R3).base (g1.trans g2) R2
theorem se_methH0 {f : Val → List Val → AH → Option (Val × AH)} (pa : PlainAttrs T) (slot : Slot T name id) (hty : typeOf (.builtin id) = pure (.type "method_descriptor")) (hm : MtR X id q) (hf : MeH X.kk q f) (ho : SE X W o mo)
    (hbase : attributeBase o name X.env (eval o X.env) = eval o X.env := by rfl) (hline : (apos.endLine == cpos.line) = true := by rfl) :
    SE X W (.Call (.Attribute o name apos) [] [] cpos) (mMethH T f mo mNil) :=
  PE.imp (pe_bm0 pa slot hty hm ho hbase hline) fun s H Q ⟨r, h, sl, R, S, o1⟩ => by
    refine ⟨r, h, sl, R, S, o1.split.mono fun x r1 h1 H1 g1 R1 o2 u q1 => ?_⟩
    obtain ⟨w, ht, k1⟩ := (Out.split o2).lft
    obtain ⟨v, h', e, k⟩ := ((Out.split (k1 r1 H1 (Go.refl _ _) R1)).now R1).lfh
    exact ⟨R1.tyV q1 (tyC_ok ht), hf r1 h1 H1 x [] u [] v h' Q R1 q1 .nil e k⟩
/-- append -/
def fAppend (x : Val) (ys : List Val) (h : AH) : Option (Val × AH) := match x, ys with
  | .ref n, [y] => (match mutAt h n with
    | some xs => if sizeOk (xs.length + 1) then some (.non, h.set n (.lst (xs ++ [y]))) else none
    | none => none)
  | _, _ => none
theorem mm_append : MeH K rAppend fAppend := by
  intro r h H x xs u us z h' Q R qx qs e k
  unfold fAppend at e
  split at e
  · rename_i n y
    cases qx with
    | @ref _ _ _ a ea =>
      obtain ⟨w, rfl, qy⟩ := qs.one
      split at e
      · rename_i ys q
        split at e
        · rename_i hl
          cases e
          obtain ⟨f0, ws, f1, f2⟩ := R.mut q ea
          refine ⟨a, ws, w, rfl, rfl, f1, ?_, ?_⟩
          · have := sizeOk_le hl
            rw [f2.length]
            omega
          · exact cn_set (Q := fun H' => Q .non H') R ea f0 f1 (f2.append (.cons qy .nil)) fun H' g R' => k r H' g R' .non .non
        · cases e
      · cases e
  · cases e
theorem se_append {apos cpos : Pos} (ho : SE X W o mo) (ha : SA X W [e] mt)
    (hbase : attributeBase o "append" X.env (eval o X.env) = eval o X.env := by rfl)
    (hfew : ((backTo cpos (starEach [e] X.env)).all (fun x => !x.1) && (backToKw cpos (keywordEach [] X.env)).all (fun x => x.1.isSome)
      && decide ([e].length + ([] : List Keyword).length + (if ([] : List Keyword).isEmpty then 0 else 1) < 30)) = true := by rfl)
    (hline : (apos.endLine == cpos.line) = true := by rfl) (hs : starEach [e] X.env = (false, eval e X.env) :: starEach [] X.env := by rfl) (hplain : (backTo cpos (starEach [] X.env)).any (·.1) = false := by rfl) :
    SE X W (.Call (.Attribute o "append" apos) [e] [] cpos) (mMethH "list" fAppend mo mt) :=
  se_methH PySem.F.plainAttrs_list PySem.F.slot_list_append PySem.F.type_list_append mt_append mm_append ho ha hbase hfew hline hs hplain
/-- join -/
def strsOf : List Val → Option (List Str)
  | [] => some []
  | .str x :: xs => (strsOf xs).map (x :: ·)
  | _ :: _ => none
theorem strsOf_ok {r : Rg} {H : Hp} : ∀ {xs : List Val} {us : List V} {ys : List Str}, RVs K r H xs us → strsOf xs = some ys → us = ys.map V.str
  | _, _, _, .nil, e => by cases e; rfl
  | _, _, ys, .cons a b, e => by
    cases a with
    | str x =>
      rename_i xs us
      unfold strsOf at e
      cases q : strsOf xs with
      | none => rw [q] at e; cases e
      | some zs =>
        rw [q] at e
        cases e
        rw [strsOf_ok b q]
        rfl
    | _ => cases e
def joinOk (a : Str) (ys : List Str) : Bool := decide ((ys.map (·.length)).sum + ys.length * a.length ≤ 16777216)
def fJoin (x : Val) (ys : List Val) (h : AH) : Option Val := match x, ys with
  | .str a, [y] => (match seqOf h y with
    | some xs => (match strsOf xs with
      | some ys => if joinOk a ys then some (.str (Txt.join a ys)) else none
      | none => none)
    | none => none)
  | _, _ => none
theorem mm_join : MeM K (fun x xs H Q => ∃ a p, ∃ ys : List Str, x = .str a ∧ xs = [.ref p] ∧ (SqL K H p (ys.map V.str) ∨ SqT K H p (ys.map V.str)) ∧ (ys.map (·.length)).sum + ys.length * a.length ≤ 16777216 ∧ Q (.str (Txt.join a ys)) H) fJoin := by
  intro r h H x xs u us z Q R qx qs e k
  unfold fJoin at e
  split at e
  · cases qx
    obtain ⟨w, rfl, qy⟩ := qs.one
    split at e
    · rename_i ys q
      split at e
      · rename_i zs q2
        split at e
        · rename_i hl
          cases e
          obtain ⟨p, ws, rfl, s, t⟩ := R.seq qy q
          have e3 := strsOf_ok t q2
          subst e3
          exact ⟨_, p, zs, rfl, rfl, s, of_decide_eq_true hl, Mr.now k R (.str _)⟩
        · cases e
      · cases e
    · cases e
  · cases e
theorem se_join {apos cpos : Pos} (ho : SE X W o mo) (ha : SA X W [e] mt)
    (hbase : attributeBase o "join" X.env (eval o X.env) = eval o X.env := by rfl)
    (hfew : ((backTo cpos (starEach [e] X.env)).all (fun x => !x.1) && (backToKw cpos (keywordEach [] X.env)).all (fun x => x.1.isSome)
      && decide ([e].length + ([] : List Keyword).length + (if ([] : List Keyword).isEmpty then 0 else 1) < 30)) = true := by rfl)
    (hline : (apos.endLine == cpos.line) = true := by rfl) (hs : starEach [e] X.env = (false, eval e X.env) :: starEach [] X.env := by rfl) (hplain : (backTo cpos (starEach [] X.env)).any (·.1) = false := by rfl) :
    SE X W (.Call (.Attribute o "join" apos) [e] [] cpos) (mMeth "str" fJoin mo mt) :=
  se_meth PySem.F.plainAttrs_str PySem.F.slot_str_join PySem.F.type_str_join mt_join mm_join ho ha hbase hfew hline hs hplain
/-- split(sep) -/
def fSplit (x : Val) (ys : List Val) (_ : AH) : Option NV := match x, ys with
  | .str a, [.str b] => if (b.length != 0) && sizeOk (a.length + 2) then some (.n ((Txt.split a b).map .str)) else none
  | _, _ => none
theorem mm_split : MeN K (fun x xs H Q => ∃ a b, x = .str a ∧ xs = [.str b] ∧ (b.length == 0) = false ∧ a.length + 2 ≤ sizeLine ∧ rNewStrs (Txt.split a b) H Q) fSplit := by
  intro r h H x xs u us z Q R qx qs e k
  unfold fSplit at e
  split at e
  · cases qx
    obtain ⟨w, rfl, qy⟩ := qs.one
    cases qy
    split at e
    · rename_i hl
      cases e
      have hq := Bool.and_eq_true_iff.mp hl
      exact ⟨_, _, rfl, rfl, by simpa [bne] using hq.1, sizeOk_le hq.2, fun p np => NK.newL R np (RVs.strs _) k⟩
    · cases e
  · cases e
theorem sn_split {apos cpos : Pos} (ho : SE X W o mo) (ha : SA X W [e] mt)
    (hbase : attributeBase o "split" X.env (eval o X.env) = eval o X.env := by rfl)
    (hfew : ((backTo cpos (starEach [e] X.env)).all (fun x => !x.1) && (backToKw cpos (keywordEach [] X.env)).all (fun x => x.1.isSome)
      && decide ([e].length + ([] : List Keyword).length + (if ([] : List Keyword).isEmpty then 0 else 1) < 30)) = true := by rfl)
    (hline : (apos.endLine == cpos.line) = true := by rfl) (hs : starEach [e] X.env = (false, eval e X.env) :: starEach [] X.env := by rfl) (hplain : (backTo cpos (starEach [] X.env)).any (·.1) = false := by rfl) :
    SN X W (.Call (.Attribute o "split" apos) [e] [] cpos) (mMethN "str" fSplit mo mt) :=
  sn_meth PySem.F.plainAttrs_str PySem.F.slot_str_split PySem.F.type_str_split mt_split mm_split ho ha hbase hfew hline hs hplain
/-- xs.index(y), plain items -/
def fIndex (x : Val) (ys : List Val) (h : AH) : Option Val := match ys with
  | [y] => (match lsV h x with
    | some xs => if flat y && xs.all flat then (xs.findIdx? fun v => eqF v y).map fun (j : Nat) => .int (j : Int) else none
    | none => none)
  | _ => none
theorem mm_index : MeM K (rIndex K) fIndex := by
  intro r h H x xs u us z Q R qx qs e k
  unfold fIndex at e
  split at e
  · rename_i y
    obtain ⟨w, rfl, qy⟩ := qs.one
    split at e
    · rename_i ys hy
      split at e
      · rename_i hf
        rw [Bool.and_eq_true] at hf
        cases hj : ys.findIdx? fun v => eqF v y with
        | none => rw [hj] at e; cases e
        | some j =>
          rw [hj] at e
          cases e
          obtain ⟨a, ws, rfl, s, t⟩ := R.lst qx hy
          obtain ⟨hlt, h1, h2⟩ := List.findIdx?_eq_some_iff_getElem.mp hj
          obtain ⟨zw, g1, g2⟩ := t.get (List.getElem?_eq_getElem hlt)
          have fa : ∀ v ∈ ys, flat v = true := List.all_eq_true.mp hf.2
          refine ⟨_, ws, w, j, zw, rfl, rfl, s, flat_ok qy hf.1, flats_ok t hf.2, g1, ?_, fun m z' hm hz => ?_, Mr.now k R (.int _)⟩
          · rw [eqF_ok g2 qy (fa _ (List.getElem_mem hlt)) hf.1]; exact h1
          · obtain ⟨v, g3, g4⟩ := t.get2 hz
            have hv : v ∈ ys := List.mem_of_getElem? g3
            have hml : m < ys.length := (List.getElem?_eq_some_iff.mp g3).1
            have h3 := h2 m hm
            rw [List.getElem?_eq_getElem hml] at g3
            have g5 := Option.some.inj g3
            subst g5
            rw [eqF_ok g4 qy (fa _ hv) hf.1]
            simpa using h3
      · cases e
    · cases e
  · cases e
theorem se_index {apos cpos : Pos} (ho : SE X W o mo) (ha : SA X W [e] mt)
    (hbase : attributeBase o "index" X.env (eval o X.env) = eval o X.env := by rfl)
    (hfew : ((backTo cpos (starEach [e] X.env)).all (fun x => !x.1) && (backToKw cpos (keywordEach [] X.env)).all (fun x => x.1.isSome)
      && decide ([e].length + ([] : List Keyword).length + (if ([] : List Keyword).isEmpty then 0 else 1) < 30)) = true := by rfl)
    (hline : (apos.endLine == cpos.line) = true := by rfl) (hs : starEach [e] X.env = (false, eval e X.env) :: starEach [] X.env := by rfl) (hplain : (backTo cpos (starEach [] X.env)).any (·.1) = false := by rfl) :
    SE X W (.Call (.Attribute o "index" apos) [e] [] cpos) (mMeth "list" fIndex mo mt) :=
  se_meth PySem.F.plainAttrs_list PySem.F.slot_list_index PySem.F.type_list_index mt_index mm_index ho ha hbase hfew hline hs hplain
end
/-! ### repr -/
def showOk (d : PyData) : Bool := d.showable && decide (d.shown.length ≤ 16777216)
def cRepr (xs : List Val) (h : AH) : Option Val := match xs with
  | [x] => (match dat h 30 x with
    | some d => if showOk d then some (.str d.shown) else none
    | none => none)
  | _ => none
theorem cm_repr {K : KK} : CaM K (fun xs H Q => ∃ x d, xs = [x] ∧ Dp K H x d ∧ d.canLay0 = true ∧ d.showable = true ∧ d.depth ≤ 40 ∧ d.shown.length ≤ sizeLine ∧ Q (.str d.shown) H) cRepr := by
  intro r h H xs us z Q R q e k
  unfold cRepr at e
  split at e
  · obtain ⟨u, rfl, qx⟩ := q.one
    split at e
    · rename_i d q1
      split at e
      · rename_i hs
        cases e
        have hb := Bool.and_eq_true_iff.mp hs
        obtain ⟨f1, f2, f3⟩ := dat_ok R 30 _ u d qx q1
        exact ⟨u, d, rfl, f1, f2, hb.1, by omega, by rw [sizeLine_eq]; exact of_decide_eq_true hb.2, now k R (.str _)⟩
      · cases e
    · cases e
  · cases e
section
variable {X : Cx} {W : WX} {a : Expr} {es : List Expr} {mt : MA} {p pos : Pos}
theorem boot_repr : bootBuiltins "repr" = some (.builtin "repr") := PyProof.Rows.Boot.«repr»
theorem se_repr (hG : X.A.guards = some []) (hu : X.A.units + 64 < cLine) (hm : X.mg "repr" = none) (ha : SA X W (a :: es) mt) (hg : Gl X "repr" := by rfl)
    (he : starEach (a :: es) X.env = (false, eval a X.env) :: starEach es X.env := by rfl) (hpl : (backTo pos (starEach es X.env)).any (·.1) = false := by rfl) : SE X W (.Call (.Name "repr" p) (a :: es) [] pos) (mCall cRepr mt) :=
  se_callB (call_repr hG hu) cm_repr boot_repr hm ha hg (by decide) (by decide) he hpl
theorem se_reprR {k : Nat} (hr : Room k X.A) (hG : X.A.guards = some []) (hm : X.mg "repr" = none) (ha : SA X W (a :: es) mt) (hg : Gl X "repr" := by rfl)
    (he : starEach (a :: es) X.env = (false, eval a X.env) :: starEach es X.env := by rfl) (hpl : (backTo pos (starEach es X.env)).any (·.1) = false := by rfl) : SE X W (.Call (.Name "repr" p) (a :: es) [] pos) (mCall cRepr mt) :=
  se_repr hG (by have := hr.un; omega) hm ha hg he hpl
end
end Mr

set_option Elab.async false
set_option linter.all false
set_option maxRecDepth 100000
set_option maxHeartbeats 1000000
namespace Mr
open PySem PySem.Spec PyProof.Rows L2
/-! ### defs -/
def mFn (n size : Nat) (body : MS) : List Val → M Val := fun xs h => if xs.length = n then (match body (xs.map some ++ List.replicate (size - n) none) h with
  | some (.rt v, h') => .ok v h'
  | some (.nx _, h') => .ok .non h'
  | some (.ex c f v _, h') => .exc c f v h'
  | _ => .bad) else .bad
def spM (K : KK) (m : List Val → M Val) (n : Nat) : Sp := fun vs H Q E => vs.length = n ∧ ∃ r h xs, Rel K r h H ∧ RVs K r H xs vs ∧ Out K r H (m xs h) (fun v r' h' H' => ∀ u, RV K r' H' v u → Q u H') E
theorem RVs.start {K : KK} {r : Rg} {H : Hp} {xs : List Val} {us : List V} {N : List Str} {n : Nat} (q : RVs K r H xs us) (hn : n = N.length) : RSl K r H (xs.map some ++ List.replicate (n - xs.length) none) (L2.start N us) := by
  subst hn
  unfold L2.start
  rw [q.length]
  refine ⟨by rw [List.length_append, List.length_append, List.length_map, List.length_map, List.length_replicate, List.length_replicate, q.length], fun i v e => ?_⟩
  by_cases hi : i < xs.length
  · rw [List.getElem?_append_left (by rw [List.length_map]; exact hi), List.getElem?_map] at e
    cases q1 : xs[i]? with
    | none => rw [q1] at e; cases e
    | some x =>
      rw [q1] at e
      cases e
      obtain ⟨u, f1, f2⟩ := q.get q1
      exact ⟨u, by rw [List.getElem?_append_left (by rw [List.length_map, q.length]; exact hi), List.getElem?_map, f1]; rfl, f2⟩
  · rw [List.getElem?_append_right (by rw [List.length_map]; omega)] at e
    have := List.mem_of_getElem? e
    rw [List.mem_replicate] at this
    cases this.2
theorem fn_ok {P : Program} {w : World} {K : PySem.W.Frag} {mg : Str → Option Value} {base : Heap} {x qual : Str} {params : Arguments} {body : List Stmt} {scope : Scope} {dvs : List V} {kws : List (Str × V)} {f : Addr} {fd : FuncData} {N ps : List Str} {k n : Nat} {m : MS}
    (F : FunD K x qual params body scope dvs kws f fd) (S : FnScope N ps scope) (hn : ps.length = n)
    (hbody : ∀ (cdv : Value) (A : Around) (outer : List Env) (s : Shared) (H : Hp) (E : XK) (W : WX), Room k (A.deeper (envOfC qual scope s.heap.objs.size f cdv)) → A.guards = some [] → Takes (cxOf (L2.CX P w) P w K mg base N qual scope f cdv A outer s H E) W →
      PassesOwn (model P w) (cxOf (L2.CX P w) P w K mg base N qual scope f cdv A outer s H E).A (cxOf (L2.CX P w) P w K mg base N qual scope f cdv A outer s H E).env (cxOf (L2.CX P w) P w K mg base N qual scope f cdv A outer s H E).xe →
      SSs (cxOf (L2.CX P w) P w K mg base N qual scope f cdv A outer s H E) W body m) :
    FnG P w K mg base (L2.CX P w) (k + 1) f fd ps (spM ⟨K, ctOf mg⟩ (mFn n N.length m) n) := by
  refine FnG.made F S (fun vs H Q E h => by rw [h.1, hn]) fun cdv A outer s H vs Q E hr hG h => ?_
  have tk : Takes (cxOf (L2.CX P w) P w K mg base N qual scope f cdv A outer s H E) (fun cls d _ H => E cls d H) := takes_of rfl rfl rfl rfl
  refine ⟨_, hbody cdv A outer s H E _ hr hG tk (passes_of (X := cxOf (L2.CX P w) P w K mg base N qual scope f cdv A outer s H E) rfl), ?_⟩
  obtain ⟨hl, r, h, xs, R, q, o⟩ := h
  unfold mFn at o
  split at o
  · rename_i hx
    have q2 := q.start (N := N) rfl
    rw [hx] at q2
    refine ⟨r, h, _, R, q2, ?_⟩
    cases q1 : m (xs.map some ++ List.replicate (N.length - n) none) h with
    | none => rw [q1] at o; exact o.elim
    | some z =>
      obtain ⟨fl, h2⟩ := z
      rw [q1] at o
      intro r1 H1 g1 R1
      cases fl with
      | rt v2 => exact fun u q3 => o r1 H1 g1 R1 u q3
      | nx sl => exact fun s1 S1 => o r1 H1 g1 R1 .non .non
      | ex c f v s1 => exact fun s2 u d C _ qu hc hd => o r1 H1 u d C g1 R1 qu hc hd
      | bk sl => exact o.elim
      | ct sl => exact o.elim
  · exact o.elim
theorem mFn_n {n size : Nat} {b : MS} {xs : List Val} {h : AH} (e : mFn n size b xs h ≠ .bad) : xs.length = n := by
  unfold mFn at e
  split at e
  · assumption
  · exact absurd rfl e
/-! ### calls -/
section
variable {X : Cx} {CX : CXT} {k : Nat} {f : Addr} {fd : FuncData} {ps : List Str} {sp : Sp} {dvs : List V} {ds : List Value} {W : WX} {x : Str} {p pos : Pos} {e : Expr} {es : List Expr} {t : TA}
theorem goes_fnS {pins : List (Addr × Obj)} {σ : L2.St} {H : Hp} {s : Shared} {Q : VK} {zs : List Value} {ys : List V} {E : XK} (F : FnG X.prog X.w X.K X.mg X.base CX k f fd ps sp) (hr : Room k X.A) (hG : X.A.guards = some []) (hb : Binds X.K fd ps ds) (hd : Vals dvs ds) (hx : PassesAt CX X σ E)
    (I : Inv X pins σ H s) (rl : Vals ys zs) (h : sp (ys ++ dvs) H Q E) : wpAny (model X.prog X.w) X.A (call (.ref f) zs) (EP X pins σ Q) X.xe s := by
  have both : Vals (ys ++ dvs) (zs ++ ds) := rl.append hd
  have many : (zs ++ ds).length = ps.length := both.length.symm.trans (F.ln _ _ _ _ h)
  refine wpAny_call (codeAny_mono (F.go X.A X.stack s H ⟨zs, []⟩ _ _ Q E hr hG I.env0 (hb s zs I.kIn many) both h) fun r s' z => ?_)
  cases r with
  | error er => exact hx pins H s er s' I z
  | ok fl =>
    cases fl with
    | ret u => exact I.after z
    | next => exact z.elim
    | brk => exact z.elim
    | cont => exact z.elim
theorem pe_gcallS (F : FnG X.prog X.w X.K X.mg X.base (L2.CX X.prog X.w) k f fd ps sp) (hr : Room k X.A) (hG : X.A.guards = some []) (hg : Gl X x) (hm : X.mg x = some (.ref f)) (hk : PySem.W.keepIn X.K (.ref f) = true) (hb : Binds X.K fd ps ds) (hd : Vals dvs ds) (tk : Takes X W)
    (ha : PA X (e :: es) t) (hdb : (x == ("__debug__" : Str)) = false := by decide) (he : starEach (e :: es) X.env = (false, eval e X.env) :: starEach es X.env := by rfl) (hpl : (backTo pos (starEach es X.env)).any (·.1) = false := by rfl) :
    PE X (.Call (.Name x p) (e :: es) [] pos) (fun σ H Q => t σ H fun vs H1 => sp (vs ++ dvs) H1 Q fun cls d H' => W cls d σ H') :=
  ⟨fun pins s σ H Q I h => wpAny_Call_Name_kw (ld_glob I hg hm (PySem.W.callWith_K (h₀ := X.base) I.ok.mod.kin hk (thn (ha.run pos pins s σ H _ I h) fun _ _ ⟨_, _, I1, r, q⟩ => ⟨I1.kIn, goes_fnS F hr hG hb hd (passAt tk σ) I1 r q⟩) he hpl) hdb)⟩
theorem pe_gcallS0 (F : FnG X.prog X.w X.K X.mg X.base (L2.CX X.prog X.w) k f fd ps sp) (hr : Room k X.A) (hG : X.A.guards = some []) (hg : Gl X x) (hm : X.mg x = some (.ref f)) (hk : PySem.W.keepIn X.K (.ref f) = true) (hb : Binds X.K fd ps ds) (hd : Vals dvs ds) (tk : Takes X W)
    (hdb : (x == ("__debug__" : Str)) = false := by decide) : PE X (.Call (.Name x p) [] [] pos) (fun σ H Q => sp dvs H Q fun cls d H' => W cls d σ H') :=
  ⟨fun pins s σ H Q I h => wpAny_Call_Name_kw (ld_glob I hg hm (PySem.W.callWith_K0 I.kIn hk (goes_fnS (zs := []) F hr hG hb hd (passAt tk σ) I .nil h)) hdb)⟩
end
/-- what a call hands back: by value, or a new list -/
def resN (v : Val) (h : AH) : Option NV := match v with
  | .ref k => (match h[k]? with
    | some (.lst xs) => if plains xs then some (.n xs) else (frz 8 v h).map fun z => .v z.1
    | _ => (frz 8 v h).map fun z => .v z.1)
  | v => (frz 8 v h).map fun z => .v z.1
/-- a call that changes nothing: its own heap is empty at the beginning -/
def pureN (f : List Val → M Val) (xs : List Val) : M NV := bnd (fzL xs) fun ys h1 => match f ys [] with
  | .ok v h2 => (match resN v h2 with
    | some z => .ok z h1
    | none => .bad)
  | .exc c fl v _ => .exc c fl v h1
  | .bad => .bad
section
variable {K : KK} {r r1 r2 : Rg} {H H2 : Hp} {h h1 h2 : AH}
theorem Rel.lo (R : Rel K r h H) : Rel K r.lo [] H := ⟨rfl, fun i j a e => (by cases e), fun i a o e => (by cases e), fun i a o e => (by cases e), R.fd, fun a z => (by cases z)⟩
theorem iso_back (R1 : Rel K r1 h1 H) (g : Go r1.lo H r2 H2) (R2 : Rel K r2 h2 H2) : Go r1 H ⟨r1.m, r2.fz⟩ H2 ∧ Rel K ⟨r1.m, r2.fz⟩ h1 H2 := by
  have st : ∀ a o, H a = some o → H2 a = some o := fun a o e => g.fr a o e (fun z => by cases z)
  refine ⟨⟨⟨fun _ _ e => e, g.kp, g.fz, g.fh⟩, fun a o e _ => st a o e, fun _ z => .inl z, fun a z => (g.fn a z).elim .inl fun y => y.elim (fun y => by cases y) fun y => .inr (.inr y)⟩, ?_⟩
  have Rs := R1.same st
  have vo : Vo r1 H2 ⟨r1.m, r2.fz⟩ H2 := ⟨fun _ _ e => e, Keep.refl _, g.fz, fun _ _ _ e => e⟩
  refine ⟨R1.len, R1.nd, fun i a o e1 e2 => (Rs.ob i a o e1 e2).go vo fun _ => rfl, fun i a o e1 e2 mt z => ?_, R2.fd, Rs.md⟩
  rcases g.fn a z with z | z | z
  · exact R1.mz i a o e1 e2 mt z
  · cases z
  · obtain ⟨u, e⟩ := R1.md a (List.mem_of_getElem? e1)
    rw [e] at z; cases z
/-- a value handed back out of a def's own heap -/
theorem resN_ok {v : Val} {u : V} {z : NV} {Q : VK} (R1 : Rel K r1 h1 H) (g : Go r1.lo H r2 H2) (R2 : Rel K r2 h2 H2) (q : RV K r2 H2 v u) (e : resN v h2 = some z)
    (k : ∀ r' H', Go r1 H r' H' → Rel K r' h1 H' → NK K H Q z r' H') : Q u H2 := by
  have byv : ∀ {z : NV}, (frz 8 v h2).map (fun z => NV.v z.1) = some z → (∀ r' H', Go r1 H r' H' → Rel K r' h1 H' → NK K H Q z r' H') → Q u H2 := fun {z} e k => by
    cases e1 : frz 8 v h2 with
    | none => rw [e1] at e; cases e
    | some y =>
      obtain ⟨w, h3⟩ := y
      rw [e1] at e
      cases e
      obtain ⟨r3, m3, g3, R3, q3⟩ := frz_ok 8 v h2 w h3 r2 u R2 q e1
      obtain ⟨ga, Ra⟩ := iso_back R1 (g.trans g3) R3
      exact k _ _ ga Ra u (RV.up (r := ⟨r1.m, r3.fz⟩) q3)
  unfold resN at e
  split at e
  · rename_i n
    split at e
    · rename_i xs q1
      split at e
      · rename_i hp
        cases e
        cases q with
        | @ref _ _ _ a ea =>
          obtain ⟨us, f1, f2⟩ := R2.ob n a _ ea q1
          obtain ⟨ga, Ra⟩ := iso_back R1 g R2
          have na : H a = none := by
            rcases g.nw a (List.mem_of_getElem? ea) with y | y
            · cases y
            · exact y
          refine k _ _ ga Ra a us na f1 (fun y => ?_) (R2.mz n a _ ea q1 rfl) (RVs.up (r := ⟨r1.m, r2.fz⟩) (f2.low hp))
          obtain ⟨o, eo⟩ := R1.md a y
          rw [na] at eo; cases eo
      · exact byv e k
    · exact byv e k
  · exact byv e k
theorem pureN_ok {f : List Val → M Val} {n : Nat} {xs : List Val} {us : List V} {Q : VK} {E : XK} (hn : ∀ xs h, f xs h ≠ .bad → xs.length = n) (R : Rel K r h H) (q : RVs K r H xs us) (o : Out K r H (pureN f xs h) (fun z r' h' H' => NK K H Q z r' H') E) : spM K f n us H Q E := by
  unfold pureN fzL bnd at o
  dsimp only at o
  cases e1 : frzs (frz 8) xs h with
  | none => rw [e1] at o; exact o.elim
  | some z =>
    obtain ⟨ys, h1⟩ := z
    rw [e1] at o
    dsimp only at o
    obtain ⟨r1, m1, g1, R1, q1⟩ := fzL_ok R q e1
    have hl : us.length = n := by
      rw [q1.length]
      refine hn ys [] fun z => ?_
      rw [z] at o
      exact o.elim
    refine ⟨hl, r1.lo, [], ys, R1.lo, q1, ?_⟩
    cases e2 : f ys [] with
    | bad => rw [e2] at o; exact o.elim
    | exc c fl v h2 =>
      rw [e2] at o
      intro r2 H2 u d C g2 R2 qu hc hd
      obtain ⟨ga, Ra⟩ := iso_back R1 g2 R2
      exact o _ _ u d C (g1.trans ga) Ra qu hc hd
    | ok v h2 =>
      rw [e2] at o
      dsimp only at o
      cases e3 : resN v h2 with
      | none => rw [e3] at o; exact o.elim
      | some z =>
        rw [e3] at o
        intro r2 H2 g2 R2 u qu
        exact resN_ok R1 g2 R2 qu e3 fun r3 H3 g3 R3 => o r3 H3 (g1.trans g3) R3
end
/-- a call that may change the list (or thing) at one place of its arguments -/
def AO.plain : AO → Bool
  | .lst xs => plains xs
  | .dk _ vs => plains vs
  | .dt _ vs => plains vs
  | .ob _ _ vs => plains vs
  | .fz _ => false
def refAt (xs : List Val) (p : Nat) : Option Nat := match xs[p]? with
  | some (.ref n) => some n
  | _ => none
theorem refAt_ok {xs : List Val} {p n : Nat} (e : refAt xs p = some n) : xs[p]? = some (.ref n) := by
  unfold refAt at e
  split at e
  · rename_i m q
    cases e
    exact q
  · cases e
/-- the thing behind the call -/
def mutB (n : Nat) (h1 : AH) (c : Val → AH → Res NV) (v : Val) (h2 : AH) : Res NV := match frz 8 v h2 with
  | some (w, h3) => (match h3[0]? with
    | some o' => if o'.plain then c w (h1.set n o') else .bad
    | none => .bad)
  | none => .bad
def mutN (p : Nat) (f : List Val → M Val) (xs : List Val) : M NV := match refAt xs p with
  | some n => bnd (fzL (xs.set p .non)) fun ys h1 => match h1[n]? with
    | some o => if o.plain then (match f (ys.set p (.ref 0)) [o] with
      | .ok v h2 => mutB n h1 (fun w h => .ok (.v w) h) v h2
      | .exc c fl v h2 => mutB n h1 (fun w h => .exc c fl w h) v h2
      | .bad => .bad) else .bad
    | none => .bad
  | none => fail
section
variable {K : KK} {r r1 r2 : Rg} {H H2 : Hp} {h h1 h2 : AH}
theorem RO.low {r r' : Rg} {a : Addr} {o : AO} (q : RO K r H a o) (hp : o.plain = true) (hz : ∀ a, r.fz a → r'.fz a) : RO K r' H a o := by
  have vo : ∀ {xs : List Val} {us : List V}, RVs K r H xs us → plains xs = true → RVs K r' H xs us := fun {xs us} q p => RVs.vo (r := r.lo) ⟨fun _ _ e => (by cases e), Keep.refl _, hz, fun _ _ _ e => e⟩ (q.low p)
  cases o with
  | lst xs => obtain ⟨us, e, q⟩ := q; exact ⟨us, e, vo q hp⟩
  | dk ks vs => obtain ⟨us, e, l, q⟩ := q; exact ⟨us, e, l, vo q hp⟩
  | dt ks vs => obtain ⟨us, e, l, q⟩ := q; exact ⟨us, e, l, vo q hp⟩
  | ob c ns vs => obtain ⟨us, C, dx, c, e, l, q⟩ := q; exact ⟨us, C, dx, c, e, l, vo q hp⟩
  | fz v => cases hp
theorem AO.plain_mut {o : AO} (h : o.plain = true) : o.mut = true := by cases o <;> first | rfl | cases h
theorem Rel.solo {n : Nat} {a : Addr} {o : AO} (R : Rel K r h H) (ea : r.m[n]? = some a) (eo : h[n]? = some o) (hp : o.plain = true) : Rel K ⟨[a], r.fz⟩ [o] H := by
  refine ⟨rfl, fun i j b e1 e2 => ?_, fun i b o' e1 e2 => ?_, fun i b o' e1 e2 mt => ?_, R.fd, fun b z => ?_⟩
  · match i, j, e1, e2 with
    | 0, 0, _, _ => rfl
    | 0, j + 1, _, e2 => cases e2
    | i + 1, _, e1, _ => cases e1
  · match i, e1, e2 with
    | 0, e1, e2 =>
      cases e1; cases e2
      exact (R.ob n a o ea eo).low hp fun _ z => z
    | i + 1, e1, _ => cases e1
  · match i, e1, e2 with
    | 0, e1, e2 =>
      cases e1; cases e2
      exact R.mz n a o ea eo mt
    | i + 1, e1, _ => cases e1
  · rw [List.mem_singleton.mp z]
    exact R.md a (List.mem_of_getElem? ea)
theorem solo_back {n : Nat} {a : Addr} {o' : AO} (R1 : Rel K r1 h1 H) (ea : r1.m[n]? = some a) (g : Go ⟨[a], r1.fz⟩ H r2 H2) (R2 : Rel K r2 h2 H2) (e' : h2[0]? = some o') (hp : o'.plain = true) :
    Go r1 H ⟨r1.m, r2.fz⟩ H2 ∧ Rel K ⟨r1.m, r2.fz⟩ (h1.set n o') H2 := by
  have am : a ∈ r1.m := List.mem_of_getElem? ea
  have sub : ∀ b, b ∈ [a] → b ∈ r1.m := fun b z => by rw [List.mem_singleton.mp z]; exact am
  have st : ∀ b o, H b = some o → b ≠ a → H2 b = some o := fun b o e ne => g.fr b o e fun z => ne (List.mem_singleton.mp z)
  have e0 : r2.m[0]? = some a := g.pre 0 a rfl
  have there : ∀ b, (∃ o, H b = some o) → ∃ o, H2 b = some o := fun b ⟨o, e⟩ => by
    by_cases hb : b = a
    · rw [hb]; exact R2.md a (List.mem_of_getElem? e0)
    · exact ⟨o, st b o e hb⟩
  refine ⟨⟨⟨fun _ _ e => e, g.kp, g.fz, g.fh⟩, fun b o e hb => st b o e fun z => hb (z ▸ am), fun _ z => .inl z, fun b z => (g.fn b z).elim .inl fun y => y.elim (fun y => .inr (.inl (sub b y))) fun y => .inr (.inr y)⟩, ?_⟩
  have hn : n < h1.length := by rw [← R1.len]; exact (List.getElem?_eq_some_iff.mp ea).1
  have vo : Vo r1 H ⟨r1.m, r2.fz⟩ H2 := ⟨fun _ _ e => e, g.kp, g.fz, g.fh⟩
  refine ⟨by rw [List.length_set]; exact R1.len, R1.nd, fun i b o e1 e2 => ?_, fun i b o e1 e2 mt z => ?_, R2.fd, fun b z => there b (R1.md b z)⟩
  · by_cases hi : i = n
    · subst hi
      rw [List.getElem?_set_self hn] at e2
      cases e2
      have e1' : r1.m[i]? = some b := e1
      rw [ea] at e1'
      cases e1'
      exact (R2.ob 0 a o' e0 e').low hp fun _ z => z
    · rw [List.getElem?_set_ne (Ne.symm hi)] at e2
      refine (R1.ob i b o e1 e2).go vo fun _ => ?_
      have ne : b ≠ a := fun z => by subst z; exact hi (R1.nd i n b e1 ea)
      obtain ⟨w, ew⟩ := R1.md b (List.mem_of_getElem? e1)
      rw [ew, st b w ew ne]
  · by_cases hi : i = n
    · subst hi
      have e1' : r1.m[i]? = some b := e1
      rw [ea] at e1'
      cases e1'
      exact R2.mz 0 a o' e0 e' (AO.plain_mut hp) z
    · rw [List.getElem?_set_ne (Ne.symm hi)] at e2
      rcases g.fn b z with y | y | y
      · exact R1.mz i b o e1 e2 mt y
      · rw [List.mem_singleton.mp y] at e1
        exact hi (R1.nd i n a e1 ea)
      · obtain ⟨w, ew⟩ := R1.md b (List.mem_of_getElem? e1)
        rw [ew] at y; cases y
theorem mutN_ok {p : Nat} {f : List Val → M Val} {n : Nat} {xs : List Val} {us : List V} {Q : VK} {E : XK} (hn : ∀ xs h, f xs h ≠ .bad → xs.length = n) (R : Rel K r h H) (q : RVs K r H xs us) (o : Out K r H (mutN p f xs h) (fun z r' h' H' => NK K H Q z r' H') E) : spM K f n us H Q E := by
  unfold mutN at o
  cases e0 : refAt xs p with
  | none => rw [e0] at o; exact o.elim
  | some m =>
    rw [e0] at o
    have hp := refAt_ok e0
    obtain ⟨u0, eu0, q0⟩ := q.get hp
    unfold fzL bnd at o
    dsimp only at o
    cases e1 : frzs (frz 8) (xs.set p .non) h with
    | none => rw [e1] at o; exact o.elim
    | some z =>
      obtain ⟨ys, h1⟩ := z
      rw [e1] at o
      dsimp only at o
      obtain ⟨r1, m1, g1, R1, q1⟩ := fzL_ok R (q.set .non p) e1
      cases e2 : h1[m]? with
      | none => rw [e2] at o; exact o.elim
      | some ob =>
        rw [e2] at o
        dsimp only at o
        split at o
        · rename_i hpl
          cases q0 with
          | @ref _ _ _ a ea =>
            have ea1 : r1.m[m]? = some a := by rw [m1]; exact ea
            have Rs := R1.solo ea1 e2 hpl
            have qy : RVs K ⟨[a], r1.fz⟩ H (ys.set p (.ref 0)) us := by
              have a1 : RVs K ⟨[a], r1.fz⟩ H ys (us.set p .non) := RVs.up (r := ⟨[a], r1.fz⟩) q1
              have a2 := a1.set (RV.ref (K := K) (r := ⟨[a], r1.fz⟩) (H := H) (n := 0) (a := a) rfl) p
              rw [List.set_set] at a2
              have a3 : us.set p (.ref a) = us := by
                refine List.ext_getElem? fun i => ?_
                by_cases hi : i = p
                · subst hi
                  rw [List.getElem?_set_self (List.getElem?_eq_some_iff.mp eu0).1, eu0]
                · rw [List.getElem?_set_ne (Ne.symm hi)]
              rw [a3] at a2
              exact a2
            have hl : us.length = n := by
              rw [qy.length]
              refine hn _ [ob] fun z => ?_
              rw [z] at o
              exact o.elim
            refine ⟨hl, _, _, _, Rs, qy, ?_⟩
            have back : ∀ {c : Val → AH → Res NV} {v : Val} {h2 : AH} {P : NV → Rg → AH → Hp → Prop} {E : XK} {r2 : Rg} {H2 : Hp} {u : V}, Out K r H (mutB m h1 c v h2) P E → Go ⟨[a], r1.fz⟩ H r2 H2 → Rel K r2 h2 H2 → RV K r2 H2 v u →
                ∃ w r3 h3, Go r H r3 H2 ∧ Rel K r3 h3 H2 ∧ RV K r3.lo H2 w u ∧ Out K r H (c w h3) P E := fun {c v h2 P E r2 H2 u} o g2 R2 qu => by
              unfold mutB at o
              cases e5 : frz 8 v h2 with
              | none => rw [e5] at o; exact o.elim
              | some w =>
                obtain ⟨w, h3⟩ := w
                rw [e5] at o
                dsimp only at o
                obtain ⟨r3, m3, g3, R3, q3⟩ := frz_ok 8 v h2 w h3 r2 u R2 qu e5
                cases e4 : h3[0]? with
                | none => rw [e4] at o; exact o.elim
                | some o' =>
                  rw [e4] at o
                  dsimp only at o
                  split at o
                  · rename_i hp'
                    obtain ⟨ga, Ra⟩ := solo_back R1 ea1 (g2.trans g3) R3 e4 hp'
                    exact ⟨w, _, _, g1.trans ga, Ra, q3, o⟩
                  · exact o.elim
            cases e3 : f (ys.set p (.ref 0)) [ob] with
            | bad => rw [e3] at o; exact o.elim
            | exc c fl v h2 =>
              rw [e3] at o
              intro r2 H2 u d C g2 R2 qu hc hd
              obtain ⟨w, r3, h3, g3, R3, q3, o3⟩ := back o g2 R2 (RV.up qu)
              exact o3 r3 H2 u d C g3 R3 q3 hc hd
            | ok v h2 =>
              rw [e3] at o
              intro r2 H2 g2 R2 u qu
              obtain ⟨w, r3, h3, g3, R3, q3, o3⟩ := back o g2 R2 qu
              exact o3 r3 H2 g3 R3 u (RV.up q3)
        · exact o.elim
end
/-! ### calls, mirrored -/
def mCallP (f : List Val → M Val) (dm : List Val) (t : MA) : MN := fun sl => bnd (t sl) fun xs => pureN f (xs ++ dm)
def mCallM (p : Nat) (f : List Val → M Val) (dm : List Val) (t : MA) : MN := fun sl => bnd (t sl) fun xs => mutN p f (xs ++ dm)
section
variable {X : Cx} {W : WX} {k n : Nat} {f : Addr} {fd : FuncData} {ps : List Str} {x : Str} {p pos : Pos} {e : Expr} {es : List Expr} {mt : MA} {size : Nat} {b : MS} {dvs : List V} {dm : List Val}
theorem sn_call (F : FnG X.prog X.w X.K X.mg X.base (L2.CX X.prog X.w) k f fd ps (spM X.kk (mFn n size b) n)) (tk : Takes X W) (hr : Room k X.A) (hG : X.A.guards = some []) (hm : X.mg x = some (.ref f)) (hk : PySem.W.keepIn X.K (.ref f) = true) (hb : ∃ ds, Vals dvs ds ∧ Binds X.K fd ps ds) (hdm : ∀ r H, RVs X.kk r H dm dvs) (ha : SA X W (e :: es) mt)
    (hg : Gl X x := by rfl) (hdb : (x == ("__debug__" : Str)) = false := by decide) (he : starEach (e :: es) X.env = (false, eval e X.env) :: starEach es X.env := by rfl) (hpl : (backTo pos (starEach es X.env)).any (·.1) = false := by rfl) :
    SN X W (.Call (.Name x p) (e :: es) [] pos) (mCallP (mFn n size b) dm mt) := by
  obtain ⟨ds, hd, hb⟩ := hb
  refine PE.imp (pe_gcallS F hr hG hg hm hk hb hd tk ha hdb he hpl) fun σ H Q ⟨r, h, sl, R, S, o⟩ => ?_
  refine ⟨r, h, sl, R, S, o.split.mono fun xs r1 h1 H1 g1 R1 o1 us q1 => ?_⟩
  exact pureN_ok (fun xs h e => mFn_n e) R1 (q1.append (hdm r1 H1)) (o1.mono fun z r2 h2 H2 g2 R2 k => k.base g1 R1)
theorem sn_callM {pp : Nat} (F : FnG X.prog X.w X.K X.mg X.base (L2.CX X.prog X.w) k f fd ps (spM X.kk (mFn n size b) n)) (tk : Takes X W) (hr : Room k X.A) (hG : X.A.guards = some []) (hm : X.mg x = some (.ref f)) (hk : PySem.W.keepIn X.K (.ref f) = true) (hb : ∃ ds, Vals dvs ds ∧ Binds X.K fd ps ds) (hdm : ∀ r H, RVs X.kk r H dm dvs) (ha : SA X W (e :: es) mt)
    (hg : Gl X x := by rfl) (hdb : (x == ("__debug__" : Str)) = false := by decide) (he : starEach (e :: es) X.env = (false, eval e X.env) :: starEach es X.env := by rfl) (hpl : (backTo pos (starEach es X.env)).any (·.1) = false := by rfl) :
    SN X W (.Call (.Name x p) (e :: es) [] pos) (mCallM pp (mFn n size b) dm mt) := by
  obtain ⟨ds, hd, hb⟩ := hb
  refine PE.imp (pe_gcallS F hr hG hg hm hk hb hd tk ha hdb he hpl) fun σ H Q ⟨r, h, sl, R, S, o⟩ => ?_
  refine ⟨r, h, sl, R, S, o.split.mono fun xs r1 h1 H1 g1 R1 o1 us q1 => ?_⟩
  exact mutN_ok (fun xs h e => mFn_n e) R1 (q1.append (hdm r1 H1)) (o1.mono fun z r2 h2 H2 g2 R2 k => k.base g1 R1)
theorem sn_call0 (F : FnG X.prog X.w X.K X.mg X.base (L2.CX X.prog X.w) k f fd ps (spM X.kk (mFn n size b) n)) (tk : Takes X W) (hr : Room k X.A) (hG : X.A.guards = some []) (hm : X.mg x = some (.ref f)) (hk : PySem.W.keepIn X.K (.ref f) = true) (hb : ∃ ds, Vals dvs ds ∧ Binds X.K fd ps ds) (hdm : ∀ r H, RVs X.kk r H dm dvs)
    (hg : Gl X x := by rfl) (hdb : (x == ("__debug__" : Str)) = false := by decide) :
    SN X W (.Call (.Name x p) [] [] pos) (mCallP (mFn n size b) dm mNil) := by
  obtain ⟨ds, hd, hb⟩ := hb
  refine PE.imp (pe_gcallS0 F hr hG hg hm hk hb hd tk hdb) fun σ H Q ⟨r, h, sl, R, S, o⟩ => ?_
  exact pureN_ok (fun xs h e => mFn_n e) R (hdm r H) (o.split.now R)
end
end Mr

set_option Elab.async false
set_option linter.all false
set_option maxRecDepth 100000
set_option maxHeartbeats 1000000
namespace Mr
open PySem PySem.Spec PyProof.Rows L2
/-! ### raise -/
def mRaise (c fld : Str) (m : ME) : MS := fun sl => sB (bnd (m sl) fzV) sl fun v h => some (.ex c fld v sl, h)
theorem fzV_ok {K : KK} {r : Rg} {h : AH} {H : Hp} {v : Val} {u : V} {P : Val → Rg → AH → Hp → Prop} {E : XK} (R : Rel K r h H) (q : RV K r H v u) (o : Out K r H (fzV v h) P E) : ∃ w r' h', Go r H r' H ∧ Rel K r' h' H ∧ RV K r'.lo H w u ∧ P w r' h' H := by
  unfold fzV at o
  cases e : frz 8 v h with
  | none => rw [e] at o; exact o.elim
  | some z =>
    obtain ⟨w, h1⟩ := z
    rw [e] at o
    obtain ⟨r1, m1, g1, R1, q1⟩ := frz_ok 8 v h w h1 r u R q e
    exact ⟨w, r1, h1, g1, R1, q1, o r1 H g1 R1⟩
section
variable {X : Cx} {W : WX} {c fld self : Str} {C fI : Addr} {k : Nat} {fd : FuncData} {e : Expr} {me : ME} {p pos pos' : Pos}
theorem ss_raise (hc : X.calm = true) (tk : Takes X W) (T : OexC X.K C) (iC : PySem.W.findIn X.K (.ref C) "__init__" = some (some (.ref fI))) (tI : PySem.W.typeIn X.K (.ref fI) = some (.type "function"))
    (F1 : FnOk X.prog X.w X.K X.mg X.base CX0 k fI fd [self, fld] (spIni C fld)) (hr : Room (k + 1) X.A) (hb : Binds X.K fd [self, fld] []) (hm : X.mg c = some (.ref C)) (he : SE X W e me) (hg : Gl X c := by rfl)
    (hdb : (c == ("__debug__" : Str)) = false := by decide) (hst : starEach [e] X.env = (false, eval e X.env) :: starEach [] X.env := by rfl) :
    SS X W (.Raise (some (.Call (.Name c p) [e] [] pos)) none pos') (mRaise c fld me) := by
  refine PS.imp (ps_raise hc tk (pmk_oex (dvs := []) T iC tI F1 hr hb .nil pass0 hg hm (pa_cons he pa_nil hst) hdb hst (by rfl))) fun D σ H ⟨r, h, sl, R, S, o⟩ => ?_
  refine ⟨r, h, sl, R, S, (OutS.sB o S).split.mono fun x r1 h1 H1 g1 R1 o1 u q1 => ?_⟩
  obtain ⟨w, r2, h2, g2, R2, q2, o2⟩ := fzV_ok R1 q1 o1
  refine ⟨by simp, fun a na => ⟨a, u, rfl, upd_same, fun dx n1 n2 => ⟨rfl, dx, [(fld, u)], upd_same, ?_, ?_, ?_⟩⟩⟩
  · rw [upd_ne n2, upd_same]
  · rwa [upd_ne n2] at n1
  · have n3 : H1 dx = none := by rwa [upd_ne n2] at n1
    rw [upd_del na n3 n2]
    have hct : X.kk.ct c = some C := by
      show ctOf X.mg c = some C
      unfold ctOf
      rw [hm]
    exact OutS.now o2 R2 σ u dx C (S.go (g1.trans g2)) q2 hct n3
end
/-! ### try .. except x as n: v = n -/
def mTry (mb : MS) (tab : Str → Bool) (i j : Nat) : MS := fun sl h => match mb sl h with
  | some (.ex c fld v sl', h') => if tab c && decide (i < sl'.length) then some (.nx (((sl'.set i (some (.ex c fld v))).set j (some (.ex c fld v))).set i none), h') else none
  | z => z
section
variable {X : Cx} {x n v : Str} {cv : Value} {i j : Nat} {body : List Stmt} {np np2 vp ap pos pos' : Pos} {Wout : WX} {mb : MS} {tab : Str → Bool}
theorem ss_try (hex : X.ex = []) (hs : X.stack = X.env :: X.outer) (hf : X.env.frame = some X.env.locals) (hN : X.N.Nodup) (hi : X.N[i]? = some n) (hj : X.N[j]? = some v) (hij : i ≠ j) (hln : X.env.kindOf n = some .local) (hlv : X.env.scope.names.lookup v = some .local) (hc : Names X x cv) (tk : Takes X Wout)
    (hb : ∀ (W : WX) (pn : List (Addr × Obj)) (xe : Value → Shared → Prop), Takes (X.tr pn xe) W → SSs (X.tr pn xe) W body mb)
    (ht : ∀ c C, tab c = true → X.kk.ct c = some C → PySem.W.exmOne X.K (.ref C) cv = some true)
    (hdn : (n == ("__debug__" : Str)) = false := by decide) (hcn : (n == ("__classdict__" : Str)) = false := by decide) (hsw : swapsWith (.Name n np2) (some (.Name v vp)) ap.line X.env = pure false := by rfl) :
    SS X Wout (.Try body [.ExceptHandler (some (.Name x np)) (some n) [.Assign [.Name v vp] (.Name n np2) ap] pos'] [] [] pos) (mTry mb tab i j) := by
  refine PS.imp (ps_try_keep (tb := fun W D σ H => tS X.kk W mb D σ H) (ts := fun _ _ _ => tAsg (fun σ H Q => ∃ u, σ[i]? = some (some u) ∧ Q u H) (gName j)) hex hs hf hN hi hln hc tk (fun W pn xe t _ => hb W pn xe t)
    (fun a oe cls d pn _ _ => pss_one (ps_set hN hj (.inl hlv) (pe_var (i := i) hi (.inl hln) hdn hcn) hsw (.inr hlv)))) fun D σ H ⟨r, h, sl, R, S, o⟩ => ?_
  refine ⟨r, h, sl, R, S, ?_⟩
  unfold mTry at o
  cases q : mb sl h with
  | none => rw [q] at o; exact o
  | some z =>
    obtain ⟨fl, h1⟩ := z
    rw [q] at o
    cases fl with
    | nx _ => exact o
    | rt _ => exact o
    | bk _ => exact o
    | ct _ => exact o
    | ex c fld y sl1 =>
      dsimp only at o
      split at o
      · rename_i htab
        intro r' H' g R' σ' u d C S' q' hct nd
        have hbb := Bool.and_eq_true_iff.mp htab
        have hlen : i < σ'.length := by
          rw [← S'.1]
          exact of_decide_eq_true hbb.2
        refine ⟨true, ht c C hbb.1 hct, fun _ a na => ?_, fun z => by cases z⟩
        have hda : d ≠ a := fun z => by
          rw [z, upd_same] at na
          cases na
        have g2 : Go r' H' r' (upd (upd H' d (.xd [(fld, u)])) a (exk a (.ref C) (some d))) := (go_new nd).trans (go_new na)
        have kx : KxAt (upd (upd H' d (.xd [(fld, u)])) a (exk a (.ref C) (some d))) a C d [(fld, u)] := ⟨upd_same, by rw [upd_ne hda, upd_same]⟩
        have rv : RV X.kk r' (upd (upd H' d (.xd [(fld, u)])) a (exk a (.ref C) (some d))) (.ex c fld y) (.ref a) := .ex hct kx (RV.vo g2.toVo.lo q')
        exact ⟨.ref a, List.getElem?_set_self hlen, o r' _ (g.trans g2) ((R'.newu nd).newu na) _ ((((S'.go g2).set rv).set rv).none)⟩
      · exact o.elim
end
/-! ### a kept exception asked -/
def fldV (n : Str) (known : Str → Bool) (v : Val) (_ : AH) : Option Val := match v with
  | .ex c fld y => if known c && decide (fld = n) then some y else none
  | _ => none
def mFld (n : Str) (known : Str → Bool) (m : ME) : ME := mUn (fldV n known) m
def isCV (tab : Str → Option Bool) (v : Val) (_ : AH) : Option Val := match v with
  | .ex c _ _ => (tab c).map .bl
  | .non => some (.bl false)
  | _ => none
def mIsC (tab : Str → Option Bool) (m : ME) : ME := mUn (isCV tab) m
section
variable {X : Cx} {W : WX} {e : Expr} {m : ME} {pos p p2 : Pos}
theorem se_fld {n : Str} {known : Str → Bool} (he : SE X W e m) (hk : ∀ c C, known c = true → X.kk.ct c = some C → XfC X.K C ∧ PySem.W.findIn X.K (.ref C) n = some none) (hb : attributeBase e n X.env (eval e X.env) = eval e X.env := by rfl) : SE X W (.Attribute e n pos) (mFld n known m) :=
  PE.imp (pe_kf he hb) fun s H Q ⟨r, h, sl, R, S, o⟩ => by
    refine ⟨r, h, sl, R, S, o.split.mono fun x r1 h1 H1 g1 R1 o1 u q1 => ?_⟩
    obtain ⟨v, e1, k⟩ := o1.lft
    unfold fldV at e1
    split at e1
    · split at e1
      · rename_i hs
        have hb := Bool.and_eq_true_iff.mp hs
        have hn := of_decide_eq_true hb.2
        cases e1
        cases q1 with
        | ex hct kx q =>
          obtain ⟨T, hno⟩ := hk _ _ hb.1 hct
          subst hn
          exact ⟨_, _, _, _, _, rfl, kx, T, hno, by simp [List.lookup], Mr.now k R1 (RV.up q)⟩
      · cases e1
    · cases e1
theorem se_isC {y : Str} {D : Addr} {tab : Str → Option Bool} (hm : X.mg "isinstance" = none) (hmy : X.mg y = some (.ref D)) (hk : ∀ c C b, tab c = some b → X.kk.ct c = some C → ExcC X.K C ∧ PySem.W.kitOne X.K (.ref C) (.ref D) = some b) (hn : PySem.W.kitOne X.K (.type "NoneType") (.ref D) = some false) (he : SE X W e m)
    (hg : Gl X "isinstance" := by rfl) (hgy : Gl X y := by rfl) (hdy : (y == ("__debug__" : Str)) = false := by decide)
    (hs : starEach [e, .Name y p2] X.env = (false, eval e X.env) :: starEach [.Name y p2] X.env := by rfl) (hs2 : starEach [.Name y p2] X.env = (false, eval (.Name y p2) X.env) :: starEach [] X.env := by rfl) (hpl : (backTo pos (starEach [.Name y p2] X.env)).any (·.1) = false := by rfl) :
    SE X W (.Call (.Name "isinstance" p) [e, .Name y p2] [] pos) (mIsC tab m) := by
  have pc : PA X [e, .Name y p2] (tCons (tE X.kk W m) (tCons (tC (.ref D)) tNil)) := pa_cons he (pa_cons (pe_glob (v := .ref D) hgy hmy rfl hdy) pa_nil hs2) hs
  have p1 := pe_callB (p := p) call_isK hg hm (by decide +kernel) pc (by decide) (by decide) hs hpl
  have p3 := pe_callB (p := p) call_isi hg hm (by decide +kernel) pc (by decide) (by decide) hs hpl
  refine ⟨fun pins s σ H Q I z => ?_⟩
  obtain ⟨r, h, sl, R, S, o⟩ := z
  unfold mIsC mUn bnd at o
  cases q0 : m sl h with
  | bad => rw [q0] at o; exact o.elim
  | exc c f v h1 =>
    rw [q0] at o
    exact p3.run pins s σ H Q I ⟨r, h, sl, R, S, by rw [q0]; exact o⟩
  | ok x h1 =>
    rw [q0] at o
    dsimp only at o
    obtain ⟨v, e1, k⟩ := o.lft
    unfold isCV at e1
    split at e1
    · rename_i c fld y
      cases q2 : tab c with
      | none => rw [q2] at e1; cases e1
      | some b =>
        rw [q2] at e1
        cases e1
        refine p1.run pins s σ H Q I ⟨r, h, sl, R, S, ?_⟩
        rw [q0]
        intro r1 H1 g1 R1 u q1
        cases q1 with
        | ex hct kx q =>
          obtain ⟨T, ko⟩ := hk _ _ _ q2 hct
          exact ⟨_, _, _, _, _, .ref D, b, rfl, kx, T, fun u ru => ru, ko, k r1 H1 g1 R1 _ (.bl b)⟩
    · cases e1
      refine p3.run pins s σ H Q I ⟨r, h, sl, R, S, ?_⟩
      rw [q0]
      intro r1 H1 g1 R1 u q1
      cases q1
      exact ⟨.non, .ref D, .type "NoneType", .ref D, false, rfl, .own D, .base .non, hn, k r1 H1 g1 R1 _ (.bl false)⟩
    · cases e1
end
/-! ### calls with keywords, every parameter given -/
def arr {α : Type} (ord : List Nat) (l : List α) : List α := ord.filterMap fun i => l[i]?
theorem arr_rvs {K : KK} {r : Rg} {H : Hp} {xs : List Val} {us : List V} (q : RVs K r H xs us) : ∀ ord : List Nat, RVs K r H (arr ord xs) (arr ord us)
  | [] => .nil
  | i :: ord => by
    unfold arr
    rw [List.filterMap_cons, List.filterMap_cons]
    cases e : xs[i]? with
    | some x =>
      obtain ⟨u, e1, e2⟩ := q.get e
      rw [e1]
      exact .cons e2 (arr_rvs q ord)
    | none =>
      have hl : us[i]? = none := List.getElem?_eq_none (by rw [q.length]; exact List.getElem?_eq_none_iff.mp e)
      rw [hl]
      exact arr_rvs q ord
theorem arr_vals {vs : List V} {us : List Value} (r : Vals vs us) : ∀ ord : List Nat, Vals (arr ord vs) (arr ord us)
  | [] => .nil
  | i :: ord => by
    unfold arr
    rw [List.filterMap_cons, List.filterMap_cons]
    have key : ∀ {vs : List V} {us : List Value} (r : Vals vs us) (i : Nat), (vs[i]? = none ∧ us[i]? = none) ∨ ∃ v u, vs[i]? = some v ∧ us[i]? = some u ∧ RelV v u := by
      intro vs us r
      induction r with
      | nil => intro i; exact .inl ⟨by simp, by simp⟩
      | cons a b ih =>
        intro i
        cases i with
        | zero => exact .inr ⟨_, _, rfl, rfl, a⟩
        | succ i => simpa using ih i
    rcases key r i with ⟨e1, e2⟩ | ⟨v, u, e1, e2, e3⟩
    · rw [e1, e2]; exact arr_vals r ord
    · rw [e1, e2]; exact .cons e3 (arr_vals r ord)
def mCallK (f : List Val → M Val) (nn nk : Nat) (ord : List Nat) (t tk : MA) : MN := fun sl => bnd (t sl) fun xs => bnd (tk sl) fun zs => if xs.length = nn ∧ zs.length = nk then pureN f (arr ord (xs ++ zs)) else fail
section
variable {X : Cx} {W : WX} {k n nn : Nat} {f : Addr} {fd : FuncData} {ps ks : List Str} {x : Str} {p pos : Pos} {e : Expr} {es : List Expr} {kws : List Keyword} {mt mk : MA} {size : Nat} {b : MS} {ord : List Nat}
abbrev SK (X : Cx) (W : WX) (kws : List Keyword) (m : MA) : Prop := PK X kws (tA X.kk W m)
theorem sk_nil : SK X W [] mNil := ⟨fun pos pins s σ H Q I z => pk_nil.run pos pins s σ H Q I (by
  obtain ⟨r, h, sl, R, S, o⟩ := z
  exact o.now R _ .nil)⟩
theorem sk_cons {nm : Option Str} {kpos : Pos} {me : ME} (he : SE X W e me) (hr : SK X W kws mt) : SK X W (⟨nm, e, kpos⟩ :: kws) (mCons me mt) := ⟨fun pos pins s σ H Q I z => (pk_cons he hr).run pos pins s σ H Q I (by
  obtain ⟨r, h, sl, R, S, o1⟩ := z
  exact ⟨r, h, sl, R, S, o1.split.mono fun x r1 h1 H1 g1 R1 o2 u q1 => ⟨r1, h1, sl, R1, S.go g1, o2.split.mono fun xs r2 h2 H2 g2 R2 o3 us q2 => o3.now R2 _ (.cons (q1.go g2) q2)⟩⟩)⟩
/-- behind the values: the call -/
theorem goes_kw {CX : CXT} {sp : Sp} {pins : List (Addr × Obj)} {σ : L2.St} {H : Hp} {s : Shared} {Q : VK} {us ws : List Value} {vs zs : List V} {E : XK} (F : FnG X.prog X.w X.K X.mg X.base CX k f fd ps sp) (hr : Room k X.A) (hG : X.A.guards = some [])
    (hb : ∀ us ws : List Value, us.length = nn → ws.length = ks.length → bindArgs fd ⟨us, ks.zip ws⟩ = pure (ps.zip (arr ord (us ++ ws)))) (hx : PassesAt CX X σ E) (I : Inv X pins σ H s) (r1 : Vals vs us) (r2 : Vals zs ws) (l1 : vs.length = nn) (l2 : zs.length = ks.length) (h : sp (arr ord (vs ++ zs)) H Q E) :
    wpAny (model X.prog X.w) X.A (call (.ref f) us (ks.zip ws)) (EP X pins σ Q) X.xe s := by
  refine wpAny_call (codeAny_mono (F.go X.A X.stack s H ⟨us, ks.zip ws⟩ _ _ Q E hr hG I.env0 (.of_eq (hb us ws (by rw [← r1.length]; exact l1) (by rw [← r2.length]; exact l2))) (arr_vals (r1.append r2) ord) h) fun r s' z => ?_)
  cases r with
  | error er => exact hx pins H s er s' I z
  | ok fl =>
    cases fl with
    | ret u => exact I.after z
    | next => exact z.elim
    | brk => exact z.elim
    | cont => exact z.elim
theorem sn_callk (F : FnG X.prog X.w X.K X.mg X.base (L2.CX X.prog X.w) k f fd ps (spM X.kk (mFn n size b) n)) (tk : Takes X W) (hr : Room k X.A) (hG : X.A.guards = some []) (hm : X.mg x = some (.ref f)) (hkp : PySem.W.keepIn X.K (.ref f) = true) (hb : ∀ us ws : List Value, us.length = nn → ws.length = ks.length → bindArgs fd ⟨us, ks.zip ws⟩ = pure (ps.zip (arr ord (us ++ ws))))
    (ha : SA X W (e :: es) mt) (hk : SK X W kws mk) (hall : (backToKw pos (keywordEach kws X.env)).all (·.1.isSome) = true := by rfl) (hks : (backToKw pos (keywordEach kws X.env)).filterMap (·.1) = ks := by rfl)
    (hg : Gl X x := by rfl) (hdb : (x == ("__debug__" : Str)) = false := by decide) (he : starEach (e :: es) X.env = (false, eval e X.env) :: starEach es X.env := by rfl)
    (hpl : ((backTo pos (starEach (e :: es) X.env)).any (·.1) || (backToKw pos (keywordEach kws X.env)).any (·.1.isNone)) = false := by rfl) :
    SN X W (.Call (.Name x p) (e :: es) kws pos) (mCallK (mFn n size b) nn ks.length ord mt mk) := by
  refine ⟨fun pins s σ H Q I z => ?_⟩
  obtain ⟨r, h, sl, R, S, o⟩ := z
  refine wpAny_Call_Name_kw (ld_glob I hg hm ?_ hdb)
  refine PySem.W.callWith_KW (h₀ := X.base) I.ok.mod.kin hkp hall (thn (ha.run pos pins s σ H (fun vs H1 => tA X.kk W mk σ H1 fun zs H2 => vs.length = nn ∧ zs.length = ks.length ∧ spM X.kk (mFn n size b) n (arr ord (vs ++ zs)) H2 Q fun cls d H' => W cls d σ H') I ?_) fun us s1 ⟨vs, H1, I1, r, q⟩ => ?_) hpl he
  · refine ⟨r, h, sl, R, S, o.split.mono fun xs r1 h1 H1 g1 R1 o1 us q1 => ⟨r1, h1, sl, R1, S.go g1, (Out.split o1).mono fun zs r2 h2 H2 g2 R2 o2 ws q2 => ?_⟩⟩
    split at o2
    · rename_i hl
      exact ⟨by rw [q1.length]; exact hl.1, by rw [q2.length]; exact hl.2, pureN_ok (fun xs h e => mFn_n e) R2 (arr_rvs ((q1.go g2).append q2) ord) (o2.mono fun z r3 h3 H3 g3 R3 k => k.base (g1.trans g2) R2)⟩
    · exact o2.elim
  · refine thn (hk.run pos pins s1 σ H1 _ I1 q) fun ws s2 ⟨zs, H2, I2, rz, l1, l2, q2⟩ => ⟨I2.kIn, ?_⟩
    rw [hks]
    exact goes_kw F hr hG hb (passAt tk σ) I2 r rz l1 l2 q2
theorem sn_callk0 (F : FnG X.prog X.w X.K X.mg X.base (L2.CX X.prog X.w) k f fd ps (spM X.kk (mFn n size b) n)) (tk : Takes X W) (hr : Room k X.A) (hG : X.A.guards = some []) (hm : X.mg x = some (.ref f)) (hkp : PySem.W.keepIn X.K (.ref f) = true) (hb : ∀ us ws : List Value, us.length = 0 → ws.length = ks.length → bindArgs fd ⟨us, ks.zip ws⟩ = pure (ps.zip (arr ord (us ++ ws))))
    (hk : SK X W kws mk) (hall : (backToKw pos (keywordEach kws X.env)).all (·.1.isSome) = true := by rfl) (hks : (backToKw pos (keywordEach kws X.env)).filterMap (·.1) = ks := by rfl)
    (hg : Gl X x := by rfl) (hdb : (x == ("__debug__" : Str)) = false := by decide)
    (hpl : ((backTo pos (starEach [] X.env)).any (·.1) || (backToKw pos (keywordEach kws X.env)).any (·.1.isNone)) = false := by rfl) :
    SN X W (.Call (.Name x p) [] kws pos) (mCallK (mFn n size b) 0 ks.length ord mNil mk) := by
  refine ⟨fun pins s σ H Q I z => ?_⟩
  obtain ⟨r, h, sl, R, S, o⟩ := z
  refine wpAny_Call_Name_kw (ld_glob I hg hm ?_ hdb)
  refine PySem.W.callWith_KW0 (h₀ := X.base) I.ok.mod.kin hkp hall (thn (hk.run pos pins s σ H (fun zs H2 => zs.length = ks.length ∧ spM X.kk (mFn n size b) n (arr ord ([] ++ zs)) H2 Q fun cls d H' => W cls d σ H') I ?_) fun ws s2 ⟨zs, H2, I2, rz, l2, q2⟩ => ⟨I2.kIn, ?_⟩) hpl
  · have o1 := (Out.split (o.split.now R)).mono (P' := fun zs r2 h2 H2 => ∀ ws, RVs X.kk r2 H2 zs ws → ws.length = ks.length ∧ spM X.kk (mFn n size b) n (arr ord ([] ++ ws)) H2 Q fun cls d H' => W cls d σ H') fun zs r2 h2 H2 g2 R2 o2 ws q2 => by
      split at o2
      · rename_i hl
        exact ⟨by rw [q2.length]; exact hl.2, pureN_ok (fun xs h e => mFn_n e) R2 (arr_rvs q2 ord) (o2.mono fun z r3 h3 H3 g3 R3 k => k.base g2 R2)⟩
      · exact o2.elim
    exact ⟨r, h, sl, R, S, o1⟩
  · rw [hks]
    exact goes_kw (us := []) (vs := []) F hr hG hb (passAt tk σ) I2 .nil rz rfl l2 q2
end
/-! ### the end -/
theorem law_sp {K : KK} {m : List Val → M Val} {H : Hp} {a : Addr} {ns : List Int} (hO : Only H) (hS : SqL K H a (ns.map V.int)) (hm : ∃ h', m [.sl (ns.map Val.int)] [] = .ok (.bl true) h') :
    spM K m 1 [.ref a] H (fun v _ => v = .bl true) fun _ _ _ => False := by
  obtain ⟨h', e⟩ := hm
  have fz : FzL K H a (ns.map V.int) := by
    rcases hS with (h | h) | h
    · rcases hO a with q | ⟨o, xs, q⟩
      · rw [q] at h; cases h
      · rw [q] at h; cases h
    · exact .inl h
    · exact .inr h
  refine ⟨rfl, ⟨[], fun _ => False⟩, [], [.sl (ns.map Val.int)], ⟨rfl, fun i j b e => (by cases e), fun i b o e => (by cases e), fun i b o e => (by cases e), fun a z => z.elim, fun a z => (by cases z)⟩, .cons (.sl fz (RVs.ints ns)) .nil, ?_⟩
  rw [e]
  intro r' H' g R u q
  cases q
  rfl
theorem cx_false {P : Program} {w : World} {H : Hp} {s : Shared} {e : Value} {s' : Shared} (z : L2.CX P w [] H s (fun _ _ _ => False) e s') : False := by
  obtain ⟨_, _, _, _, _, _, _, _, _, _, _, _, z⟩ := z
  exact z
end Mr

set_option Elab.async false
set_option linter.all false
set_option maxRecDepth 100000
set_option maxHeartbeats 1000000
namespace Mr
open PySem PySem.Spec PyProof.Rows L2
/-- a statement within a class -/
def clsSt (st : Stmt) (i : Nat) : Stmt := match st with
  | .ClassDef (body := b) .. => b.getD i (.Pass ⟨0, 0, 0, 0⟩)
  | _ => .Pass ⟨0, 0, 0, 0⟩
/-- an own exception that can be raised -/
structure Exk (P : Program) (w : World) (K : PySem.W.Frag) (mg : Str → Option Value) (base : Heap) (c fld : Str) (C : Addr) : Prop where
  hm : mg c = some (.ref C)
  T : OexC K C
  E : ExcC K C
  no : PySem.W.findIn K (.ref C) fld = some none
  ini : ∃ fI fd self, PySem.W.findIn K (.ref C) "__init__" = some (some (.ref fI)) ∧ PySem.W.typeIn K (.ref fI) = some (.type "function") ∧ FnOk P w K mg base CX0 1 fI fd [self, fld] (spIni C fld) ∧ Binds K fd [self, fld] []
theorem ss_raiseE {X : Cx} {W : WX} {c fld : Str} {C : Addr} {k : Nat} {e : Expr} {me : ME} {p pos pos' : Pos} (x : Exk X.prog X.w X.K X.mg X.base c fld C) (hc : X.calm = true) (tk : Takes X W) (hr : Room (k + 2) X.A) (he : SE X W e me) (hg : Gl X c := by rfl)
    (hdb : (c == ("__debug__" : Str)) = false := by decide) (hst : starEach [e] X.env = (false, eval e X.env) :: starEach [] X.env := by rfl) :
    SS X W (.Raise (some (.Call (.Name c p) [e] [] pos)) none pos') (mRaise c fld me) := by
  obtain ⟨fI, fd, self, h1, h2, h3, h4⟩ := x.ini
  exact ss_raise hc tk x.T h1 h2 h3 (hr.mono (by omega)) h4 x.hm he hg hdb hst
theorem ExF.exk {P : Program} {w : World} {K : PySem.W.Frag} {mg : Str → Option Value} {base : Heap} {h : Heap} {e : ExW} {fI : Addr} {fd : FuncData} {p0 p1 p2 p3 p4 p5 p6 p7 p8 p9 : Pos} {ar : Arg} (X : K.In h) (G : h.Ns mainGlobals mg) (F : ExF P K e (He.ga K e.x) fI fd) (T : ExT P e p0 p1 p2 p3 p4 p5 p6 p7 p8 p9 ar) (hms : mg "super" = none) (hst : PySem.W.nsIn K cStatics "thirdparty.any" = some none)
    (hb : ∀ (Ta : Addr) (kV doc pm : Value) (an : Option Addr) (cdv ct : Value) (cc : Addr) (us its : List Value), us.length = 2 → its.length = 1 →
      ∃ k, bindArgs (PySem.W.ksFn e.name e.qual e.params e.body e.scope (.ref Ta) kV doc pm an cdv ct cc) ⟨us, []⟩ = seqItems? (.ref Ta) >>= k ∧ k (some its.toArray) = pure ([e.self, e.fld].zip us)) :
    Exk P w K mg base e.x e.fld (He.ga K e.x) := by
  refine ⟨PySem.W.mg_of X G F.gl, F.T, F.E, F.no, fI, fd, e.self, F.iC, F.tI, F.ini T hms hst, ?_⟩
  obtain ⟨Ta, oc, od, its, n, osl, hd, ho, hi⟩ := F.df
  obtain ⟨oc', od', dV, kV, doc, pm, ct, an, osl', cda, cc, ccl, cl, cdd, cld, ccs, csl, vs, file, tf, hfd, _⟩ := F.fn
  intro s zs KX hl
  rw [List.append_nil] at hl ⊢
  have hdv : dV = .ref Ta := by rw [hfd] at hd; exact hd
  subst hdv
  have hi1 : its.toList.length = 1 := by rw [hi]; rfl
  obtain ⟨k, e1, e2⟩ := hb Ta kV doc pm an (.ref cda) ct cc zs its.toList hl hi1
  rw [← hfd] at e1
  refine PySem.W.binds_K KX hd ho rfl (by rw [hd]; exact e1) ?_
  simpa using e2
theorem free_of {l : List (Str × NameKind)} (h : (l.all fun p => !(p.2 == .free) || p.1 == ("__class__" : Str)) = true) : ∀ x, l.lookup x = some .free → x = "__class__" := fun x e => by
  have m : (x, NameKind.free) ∈ l := by
    induction l with
    | nil => cases e
    | cons p l ih =>
      rw [List.lookup_cons] at e
      split at e
      · rename_i hb
        have := eq_of_beq hb
        subst this
        have e2 := Option.some.inj e
        obtain ⟨a, b⟩ := p
        dsimp only at e2
        subst e2
        exact List.mem_cons_self
      · rw [List.all_cons, Bool.and_eq_true] at h
        exact List.mem_cons_of_mem _ (ih h.2 e)
  have h2 := List.all_eq_true.mp h _ m
  dsimp only at h2
  rw [Bool.or_eq_true] at h2
  rcases h2 with h2 | h2
  · exact absurd h2 (by decide)
  · exact eq_of_beq h2
/-! ### tables of classes -/
theorem tab_of {K : PySem.W.Frag} {mg : Str → Option Value} {Pd : Addr → Prop} (ns : List Str) (h : ∀ c ∈ ns, mg c = some (.ref (He.ga K c)) ∧ Pd (He.ga K c)) : ∀ c C, ns.contains c = true → ctOf mg c = some C → Pd C := fun c C hc hC => by
  obtain ⟨h1, h2⟩ := h c (List.contains_iff_mem.mp hc)
  unfold ctOf at hC
  rw [h1] at hC
  cases hC
  exact h2
theorem tabk_of {K : PySem.W.Frag} {mg : Str → Option Value} {Pd : Bool → Addr → Prop} : ∀ (l : List (Str × Bool)) (_ : ∀ p ∈ l, mg p.1 = some (.ref (He.ga K p.1)) ∧ Pd p.2 (He.ga K p.1)) (c : Str) (C : Addr) (b : Bool), l.lookup c = some b → ctOf mg c = some C → Pd b C
  | [], _, c, C, b, hl, _ => by cases hl
  | (d, v) :: l, h, c, C, b, hl, hC => by
    rw [List.lookup_cons] at hl
    split at hl
    · rename_i hb
      cases hl
      have hcd : c = d := eq_of_beq hb
      subst hcd
      obtain ⟨h1, h2⟩ := h (c, v) List.mem_cons_self
      unfold ctOf at hC
      rw [h1] at hC
      cases hC
      exact h2
    · exact tabk_of l (fun p hp => h p (List.mem_cons_of_mem _ hp)) c C b hl hC
theorem xfC_of {K : PySem.W.Frag} {C : Addr} (E : ExcC K C) : XfC K C := ⟨E.hg, E.hk, E.hs, E.hd⟩
/-! ### a def of the text, where it stands -/
structure Df (K : PySem.W.Frag) (mg : Str → Option Value) (x : Str) (st : Stmt) (ps : List Str) (dvs : List V) (f : Addr) (fd : FuncData) : Prop where
  F : FunD K x x (defArgs st) (defBody st) (defScope st) dvs [] f fd
  gm : mg x = some (.ref f)
  b : ∀ n, n ≤ dvs.length → ∃ ds, Vals (dvs.drop n) ds ∧ Binds K fd ps ds
theorem Df.b0 {K : PySem.W.Frag} {mg : Str → Option Value} {x : Str} {st : Stmt} {ps : List Str} {dvs : List V} {f : Addr} {fd : FuncData} (D : Df K mg x st ps dvs f fd) : ∃ ds, Vals [] ds ∧ Binds K fd ps ds := by
  obtain ⟨ds, h1, h2⟩ := D.b dvs.length (Nat.le_refl _)
  rw [List.drop_length] at h1
  exact ⟨ds, h1, h2⟩
theorem Df.mk0 {K : PySem.W.Frag} {mg : Str → Option Value} {x : Str} {st : Stmt} {ps : List Str} {f : Addr} {fd : FuncData} (F : FunD K x x (defArgs st) (defBody st) (defScope st) [] [] f fd) (gm : mg x = some (.ref f))
    (h : ∀ (kV doc pm : Value) (an : Option Addr) (cdv ct : Value) (us : List Value), us.length = ps.length → bindArgs (PySem.W.fnOf x x (defArgs st) (defBody st) (defScope st) .none kV doc pm an cdv ct) ⟨us, []⟩ = pure (ps.zip us)) : Df K mg x st ps [] f fd :=
  ⟨F, gm, fun n hn => ⟨[], by
    rw [List.drop_nil]
    exact .nil, F.bindsN h⟩⟩
theorem Df.mk1 {K : PySem.W.Frag} {mg : Str → Option Value} {x : Str} {st : Stmt} {ps : List Str} {d : V} {f : Addr} {fd : FuncData} {m : Nat} (F : FunD K x x (defArgs st) (defBody st) (defScope st) [d] [] f fd) (gm : mg x = some (.ref f)) (hm : m + 1 = ps.length)
    (h0 : ∀ (T : Addr) (kV doc pm : Value) (an : Option Addr) (cdv ct : Value) (us its : List Value), us.length = m → its.length = 1 →
      ∃ k, bindArgs (PySem.W.fnOf x x (defArgs st) (defBody st) (defScope st) (.ref T) kV doc pm an cdv ct) ⟨us, []⟩ = seqItems? (.ref T) >>= k ∧ k (some its.toArray) = pure (ps.zip (us ++ its.drop 0)))
    (h1 : ∀ (T : Addr) (kV doc pm : Value) (an : Option Addr) (cdv ct : Value) (us its : List Value), us.length = m + 1 → its.length = 1 →
      ∃ k, bindArgs (PySem.W.fnOf x x (defArgs st) (defBody st) (defScope st) (.ref T) kV doc pm an cdv ct) ⟨us, []⟩ = seqItems? (.ref T) >>= k ∧ k (some its.toArray) = pure (ps.zip (us ++ its.drop 1))) : Df K mg x st ps [d] f fd :=
  ⟨F, gm, fun n hn => by
    match n, hn with
    | 0, _ => exact F.binds1 m 0 (by simp) (by simpa using hm) h0
    | 1, _ => exact F.binds1 (m + 1) 1 (by simp) (by simpa using hm) h1⟩
/-- keywords for every parameter -/
theorem Df.kw {K : PySem.W.Frag} {mg : Str → Option Value} {x : Str} {st : Stmt} {ps ks : List Str} {f : Addr} {fd : FuncData} {nn : Nat} {ord : List Nat} (D : Df K mg x st ps [] f fd)
    (h : ∀ (kV doc pm : Value) (an : Option Addr) (cdv ct : Value) (us ws : List Value), us.length = nn → ws.length = ks.length → bindArgs (PySem.W.fnOf x x (defArgs st) (defBody st) (defScope st) .none kV doc pm an cdv ct) ⟨us, ks.zip ws⟩ = pure (ps.zip (arr ord (us ++ ws)))) :
    ∀ us ws : List Value, us.length = nn → ws.length = ks.length → bindArgs fd ⟨us, ks.zip ws⟩ = pure (ps.zip (arr ord (us ++ ws))) := by
  obtain ⟨oc, od, dV, kV, doc, pm, an, cdv, ct, osl, rfl, lk, hcd, hD, hK⟩ := D.F.ex
  rcases hD with ⟨_, rfl⟩ | ⟨e, _⟩
  · exact fun us ws l1 l2 => h kV doc pm an cdv ct us ws l1 l2
  · exact absurd rfl e
end Mr

set_option Elab.async false
set_option linter.all false
set_option maxRecDepth 100000
set_option maxHeartbeats 1000000
namespace Mr
open PySem PySem.Spec PyProof.Rows L2
/-! ### further built-ins -/
theorem CallR.or {X : Cx} {f : Value} {q q' : List V → Hp → VK → Prop} (h : CallR X f q) (h' : CallR X f q') : CallR X f (fun xs H Q => q xs H Q ∨ q' xs H Q) := by
  intro pins s σ H xs us Q I r z
  rcases z with z | z
  · exact h pins s σ H xs us Q I r z
  · exact h' pins s σ H xs us Q I r z
section
variable {X : Cx} {W : WX} {K : KK} {a b o e : Expr} {es : List Expr} {ma mb mo : ME} {mt : MA} {p pos : Pos}
/-- the signs of a text -/
def sgV (x : Str) : List Val := x.cps.toList.map fun c => .str ⟨#[c]⟩
def sgU (x : Str) : List V := x.cps.toList.map fun c => .str ⟨#[c]⟩
theorem sg_rv {r : Rg} {H : Hp} (x : Str) : RVs K r H (sgV x) (sgU x) := by
  unfold sgV sgU
  induction x.cps.toList with
  | nil => exact .nil
  | cons c l ih => exact .cons (.str _) ih
theorem vals_sg {x : Str} {acc : Array Value} (h : ItemsOf (SignAt x) acc x.cps.size) : Vals (sgU x) acc.toList := by
  refine vals_of_at (by unfold sgU; rw [List.length_map, Array.length_toList, Array.length_toList]; exact h.1.symm) fun j y u h1 h2 => ?_
  obtain ⟨c, t, hc, rfl⟩ := h.2 j u (by rw [← h2, Array.getElem?_toList])
  unfold sgU at h1
  rw [List.getElem?_map, Array.getElem?_toList, hc] at h1
  cases h1
  exact ⟨t, rfl⟩
theorem call_list_sg (hc : X.calm = true) : CallR X (.type "list") (fun xs H Q => ∃ x, xs = [.str x] ∧ x.length ≤ sizeLine ∧ ∀ l, H l = none → Q (.ref l) (upd H l (.lst (sgU x)))) := by
  intro pins s σ H xs us Q I r h
  obtain ⟨x, rfl, hz, q⟩ := h
  obtain ⟨u, rfl, t, rfl⟩ := vals1 r
  refine PySem.call_list_str (I.ok.hd hc) x t (hn := hz) fun h' tk acc' c' hk hS hacc => ?_
  refine ⟨.ref s.heap.objs.size, _, I.laid (t' := tk) hk (Nat.le_refl _) (show ObjOk X.prog X.w _ h' _ (.lst (sgU x)) from ⟨?_, acc'.toList, c', vals_sg hacc, ?_⟩), rfl, q _ (I.hok.fresh (Nat.le_refl _))⟩
  · unfold sgU; rw [List.length_map, Array.length_toList]; exact hz
  · rw [Array.toArray_toList]; exact hS
/-- list(x), texts too -/
def cListS (xs : List Val) (h : AH) : Option NV := match xs with
  | [.str x] => if sizeOk x.length then some (.n (sgV x)) else none
  | [x] => (seqOf h x).map .n
  | _ => none
theorem cm_listS : CaN K (fun xs H Q => (∃ p ys, xs = [.ref p] ∧ (SqL K H p ys ∨ SqT K H p ys) ∧ ∀ l, H l = none → Q (.ref l) (upd H l (.lst ys))) ∨ ∃ x, xs = [.str x] ∧ x.length ≤ sizeLine ∧ ∀ l, H l = none → Q (.ref l) (upd H l (.lst (sgU x)))) cListS := by
  intro r h H xs us z Q R q e k
  unfold cListS at e
  split at e
  · obtain ⟨u, rfl, qx⟩ := q.one
    cases qx
    split at e
    · rename_i hs
      cases e
      exact .inr ⟨_, rfl, sizeOk_le hs, fun l nl => NK.newL R nl (sg_rv _) k⟩
    · cases e
  · rename_i x _
    obtain ⟨u, rfl, qx⟩ := q.one
    cases q1 : seqOf h x with
    | none => rw [q1] at e; cases e
    | some ys =>
      rw [q1] at e
      cases e
      obtain ⟨p, us, rfl, s, t⟩ := R.seq qx q1
      exact .inl ⟨p, us, rfl, s, fun l nl => NK.newL R nl t k⟩
  · cases e
theorem sn_clistS (hc : X.calm = true) (hm : X.mg "list" = none) (ha : SA X W (a :: es) mt) (hg : Gl X "list" := by rfl)
    (he : starEach (a :: es) X.env = (false, eval a X.env) :: starEach es X.env := by rfl) (hpl : (backTo pos (starEach es X.env)).any (·.1) = false := by rfl) : SN X W (.Call (.Name "list" p) (a :: es) [] pos) (mCallN cListS mt) :=
  sn_callTy (CallR.or call_list_of (call_list_sg hc)) cm_listS (by decide +kernel) hm ha hg (by decide) (by decide) he hpl
/-- list(range(..)) -/
theorem rgV_rv {r : Rg} {H : Hp} (a b : Int) : RVs K r H (rngV a (b - a).toNat) (rgV a b) := by
  unfold rngV rgV
  induction List.range (b - a).toNat with
  | nil => exact .nil
  | cons c l ih => exact .cons (.int _) ih
theorem rgV_rv0 {r : Rg} {H : Hp} (b : Int) : RVs K r H (rngV 0 b.toNat) (rgV 0 b) := by
  have e3 := rgV_rv (K := K) (r := r) (H := H) 0 b
  rw [Int.sub_zero] at e3
  exact e3
def mLRng1 (m : ME) : MN := fun sl => bnd (m sl) fun x => lft fun _ => match x with
  | .int j => if rngOk j && decide (j ≤ 16777216) then some (.n (rngV 0 j.toNat)) else none
  | _ => none
def mLRng2 (m n : ME) : MN := fun sl => bnd (m sl) fun x => bnd (n sl) fun y => lft fun _ => match x, y with
  | .int i, .int j => if rngOk i && (rngOk j && decide (j - i ≤ 16777216)) then some (.n (rngV i (j - i).toNat)) else none
  | _, _ => none
theorem sn_lrng1 {p2 pos2 : Pos} (hc : X.calm = true) (hm : X.mg "list" = none) (hm2 : X.mg "range" = none) (ha : SE X W a ma) (hg : Gl X "list" := by rfl) (hg2 : Gl X "range" := by rfl)
    (na : starEach [.Call (.Name "range" p2) [a] [] pos2] X.env = (false, eval (.Call (.Name "range" p2) [a] [] pos2) X.env) :: starEach [] X.env := by rfl) (na2 : starEach [a] X.env = (false, eval a X.env) :: starEach [] X.env := by rfl) :
    SN X W (.Call (.Name "list" p) [.Call (.Name "range" p2) [a] [] pos2] [] pos) (mLRng1 ma) := PE.imp (pe_listRg hc hg hm (prg_1 hg2 hm2 ha na2) na) fun s H Q ⟨r, h, sl, R, S, o1⟩ => by
  refine ⟨r, h, sl, R, S, o1.split.mono fun x r1 h1 H1 g1 R1 o2 u q1 => ?_⟩
  obtain ⟨v, e, k⟩ := o2.lft
  have kk : ∀ r' H', Go r1 H1 r' H' → Rel X.kk r' h1 H' → NK X.kk H1 Q v r' H' := fun r' H' g' R' => (k r' H' g' R').base g1 R1
  split at e
  · split at e
    · rename_i hj
      cases e
      cases q1
      have hq := Bool.and_eq_true_iff.mp hj
      have h1 := rngOk_ok hq.1
      have h2 := of_decide_eq_true hq.2
      refine ⟨_, rfl, ⟨by omega, by omega, h1.1, h1.2, by omega⟩, fun l nl => NK.newL R1 nl ?_ kk⟩
      exact rgV_rv0 _
    · cases e
  · cases e
theorem sn_lrng2 {p2 pos2 : Pos} (hc : X.calm = true) (hm : X.mg "list" = none) (hm2 : X.mg "range" = none) (ha : SE X W a ma) (hb : SE X W b mb) (hg : Gl X "list" := by rfl) (hg2 : Gl X "range" := by rfl)
    (na : starEach [.Call (.Name "range" p2) [a, b] [] pos2] X.env = (false, eval (.Call (.Name "range" p2) [a, b] [] pos2) X.env) :: starEach [] X.env := by rfl) (na2 : starEach [a, b] X.env = (false, eval a X.env) :: starEach [b] X.env := by rfl)
    (nb : starEach [b] X.env = (false, eval b X.env) :: starEach [] X.env := by rfl) (hp : (backTo pos2 (starEach [b] X.env)).any (·.1) = false := by rfl) :
    SN X W (.Call (.Name "list" p) [.Call (.Name "range" p2) [a, b] [] pos2] [] pos) (mLRng2 ma mb) := PE.imp (pe_listRg hc hg hm (prg_2 hg2 hm2 ha hb na2 nb hp) na) fun s H Q ⟨r, h, sl, R, S, o1⟩ => by
  refine ⟨r, h, sl, R, S, o1.split.mono fun x r1 h1 H1 g1 R1 o2 u q1 => ⟨r1, h1, sl, R1, S.go g1, o2.split.mono fun y r2 h2 H2 g2 R2 o3 u2 q2 => ?_⟩⟩
  obtain ⟨v, e, k⟩ := o3.lft
  have kk : ∀ r' H', Go r2 H2 r' H' → Rel X.kk r' h2 H' → NK X.kk H2 Q v r' H' := fun r' H' g' R' => (k r' H' g' R').base (g1.trans g2) R2
  split at e
  · split at e
    · rename_i hj
      cases e
      cases q1
      cases q2
      have hq := Bool.and_eq_true_iff.mp hj
      have hq2 := Bool.and_eq_true_iff.mp hq.2
      have h1 := rngOk_ok hq.1
      have h2 := rngOk_ok hq2.1
      have h3 := of_decide_eq_true hq2.2
      exact ⟨_, _, rfl, rfl, ⟨h1.1, h1.2, h2.1, h2.2, by omega⟩, fun l nl => NK.newL R2 nl (rgV_rv _ _) kk⟩
    · cases e
  · cases e
/-- x.bit_length() -/
def uBits (x : Val) (_ : AH) : Option Val := match x with
  | .int i => some (.int (Builtin.Int.intBits i : Nat))
  | _ => none
theorem se_bits {apos : Pos} (ho : SE X W o mo) (hbase : attributeBase o "bit_length" X.env (eval o X.env) = eval o X.env := by rfl) (hline : (apos.endLine == pos.line) = true := by rfl) :
    SE X W (.Call (.Attribute o "bit_length" apos) [] [] pos) (mUn uBits mo) := PE.imp (pe_bits ho hbase hline) fun s H Q ⟨r, h, sl, R, S, o1⟩ => by
  refine ⟨r, h, sl, R, S, o1.split.mono fun x r1 h1 H1 g1 R1 o2 u q1 => ?_⟩
  obtain ⟨v, e, k⟩ := o2.lft
  unfold uBits at e
  split at e
  · cases e
    cases q1
    exact ⟨_, rfl, now k R1 (.int _)⟩
  · cases e
/-- {} -/
def mDict0 : ME := fun _ => ret (.fd [] [])
theorem se_dict0 : SE X W (.Dict [] [] pos) mDict0 := PE.imp pe_dnewK fun s H Q ⟨r, h, sl, R, S, o1⟩ q nq => by
  have g : Go r H (r.ice q) (upd H q (.dK [])) := go_iceN (go_new nq) nq
  have nm : q ∉ r.m := fun z => by
    obtain ⟨u, e⟩ := R.md q z
    rw [nq] at e; cases e
  exact o1 (r.ice q) _ g ((R.newu nq).ice nm ⟨_, upd_same⟩) _ (.fd (ks := []) (us := []) (.inr rfl) upd_same rfl .nil)
end
/-! ### repr, dicts too -/
def keyD : Key → PyData
  | .inl i => .int i
  | .inr x => .str x
mutual
inductive Dq (K : PySem.W.Frag) (H : Hp) : V → PyData → Prop
  | non : Dq K H .non .none
  | bl (b : Bool) : Dq K H (.bl b) (.bool b)
  | int (i : Int) : Dq K H (.int i) (.int i)
  | str (x : Str) : Dq K H (.str x) (.str x)
  | lst {a : Addr} {xs : List V} {ds : List PyData} : SqL K H a xs → DqAll K H xs ds → Dq K H (.ref a) (.list ds)
  | tup {a : Addr} {xs : List V} {ds : List PyData} : SqT K H a xs → DqAll K H xs ds → Dq K H (.ref a) (.tuple ds)
  | dk {a : Addr} {ks : List Key} {xs : List V} {ds : List PyData} : H a = some (.dK (ks.zip xs)) → ks.length = xs.length → DqAll K H xs ds → Dq K H (.ref a) (.dict ((ks.map keyD).zip ds))
inductive DqAll (K : PySem.W.Frag) (H : Hp) : List V → List PyData → Prop
  | nil : DqAll K H [] []
  | cons {v : V} {vs : List V} {d : PyData} {ds : List PyData} : Dq K H v d → DqAll K H vs ds → DqAll K H (v :: vs) (d :: ds)
end
/-- sys.modules is a dict -/
def SysD (K : PySem.W.Frag) : Prop := ∃ o : Obj, K.lookup sysModules = some o ∧ o.cls = .type "dict"
def sysB (K : PySem.W.Frag) : Bool := match K.lookup sysModules with
  | some ⟨.type c, _, _, _⟩ => c == "dict"
  | _ => false
theorem sysB_ok {K : PySem.W.Frag} (h : sysB K = true) : SysD K := by
  unfold sysB at h
  split at h
  · rename_i c d da sl e
    exact ⟨_, e, by rw [eq_of_beq h]⟩
  · cases h
theorem DqAll.length {K : PySem.W.Frag} {H : Hp} : ∀ {xs : List V} {ds : List PyData}, DqAll K H xs ds → xs.length = ds.length
  | _, _, .nil => rfl
  | _, _, .cons _ t => by rw [List.length_cons, List.length_cons, t.length]
theorem pairs_keys {P : Program} {w : World} {hp : Heap} : ∀ {es : List DictEntry} {vs : List (Key × Value)}, PySem.Pairs (mixKind P w) es vs → ReadsAll hp (es.map (·.key)) ((vs.map (·.1)).map keyD) []
  | _, _, .nil => .nil
  | _, _, .cons (e := e) (kv := kv) h _ t => by
    rw [List.map_cons, List.map_cons, List.map_cons]
    have one : Reads hp e.key (keyD kv.1) [] := by
      rcases keyIs_shape (show keyIs kv.1 e.key = true from h) with ⟨i, t, e1, e2⟩ | ⟨x, t, e1, e2⟩
      · rw [e1, e2]; exact .int i t
      · rw [e1, e2]; exact .str x t
    exact .cons (as := []) (bs := []) one (pairs_keys t)
theorem pairs_vals {P : Program} {w : World} : ∀ {es : List DictEntry} {vs : List (Key × Value)}, PySem.Pairs (mixKind P w) es vs → es.map (·.val) = vs.map (·.2)
  | _, _, .nil => rfl
  | _, _, .cons _ h t => by rw [List.map_cons, List.map_cons, h, pairs_vals t]
theorem kv_split : ∀ {ks : List Key} {xs : List V} {vs : List (Key × Value)}, ks.length = xs.length → KV (ks.zip xs) vs → vs.map (·.1) = ks ∧ Vals xs (vs.map (·.2))
  | [], [], vs, _, h => by cases h; exact ⟨rfl, .nil⟩
  | [], _ :: _, _, e, _ => by cases e
  | _ :: _, [], _, e, _ => by cases e
  | k :: ks, x :: xs, vs, e, h => by
    rw [List.zip_cons_cons] at h
    cases h with
    | cons a b =>
      obtain ⟨h1, h2⟩ := kv_split (Nat.succ.inj e) b
      refine ⟨?_, .cons a.2 h2⟩
      rw [List.map_cons, h1, ← a.1]
section
variable {X : Cx} {pins : List (Addr × Obj)} {σ : L2.St} {H : Hp} {s : Shared}
theorem SysD.ne (S : SysD X.K) (I : Inv X pins σ H s) {a : Addr} {o : Obj} (e : s.heap.get? a = some o) (c : o.cls = .type "list") : a ≠ sysModules := fun z => by
  obtain ⟨u, k, d⟩ := S
  subst z
  rw [I.kIn _ _ k] at e
  cases e
  rw [c] at d
  exact absurd d (by simp)
mutual
theorem Dq.reads (I : Inv X pins σ H s) (S : SysD X.K) : ∀ (d : PyData) (v : V) (u : Value), Dq X.K H v d → RelV v u → ∃ as, Reads s.heap u d as ∧ sysModules ∉ as
  | .none, _, _, h, r => by
    cases h
    cases r
    exact ⟨_, Reads.none, List.not_mem_nil⟩
  | .bool b, _, _, h, r => by
    cases h
    cases r
    exact ⟨_, Reads.bool b, List.not_mem_nil⟩
  | .int i, _, _, h, r => by
    cases h
    obtain ⟨t, rfl⟩ := r
    exact ⟨_, Reads.int i t, List.not_mem_nil⟩
  | .str x, _, _, h, r => by
    cases h
    obtain ⟨t, rfl⟩ := r
    exact ⟨_, Reads.str x t, List.not_mem_nil⟩
  | .list ds, _, _, h, r => by
    cases h with
    | lst hs ha =>
      cases r
      obtain ⟨its, rv, ⟨o, n, ho, hc, _, hd⟩, _⟩ := I.list hs
      obtain ⟨as, hr, hn⟩ := Dq.readsAll I S ds _ its ha rv
      refine ⟨_, Reads.list ho hc hd hr, fun z => ?_⟩
      rcases List.mem_cons.mp z with z | z
      · exact S.ne I ho hc z.symm
      · exact hn z
  | .tuple ds, _, _, h, r => by
    cases h with
    | tup hs ha =>
      cases r
      obtain ⟨its, rv, ⟨o, ho, hc, n, hd⟩, _⟩ := I.tuple hs
      obtain ⟨as, hr, hn⟩ := Dq.readsAll I S ds _ its ha rv
      exact ⟨_, Reads.tuple ho hc hd hr, hn⟩
  | .dict kvs, v, u, h, r => by
    generalize hk : PyData.dict kvs = d at h
    cases h with
    | @dk a ks xs ds e hl ha =>
      cases r
      injection hk with hk
      have hlen := ha.length
      have e1 : kvs.map (·.1) = ks.map keyD := by rw [hk, List.map_fst_zip (by rw [List.length_map]; omega)]
      have e2 : kvs.map (·.2) = ds := by rw [hk, List.map_snd_zip (by rw [List.length_map]; omega)]
      obtain ⟨z, lo, vs, rk, o, es, ep, ho, hx, hd, _, hp, _⟩ := dk_of I.hok e
      obtain ⟨f1, f2⟩ := kv_split hl rk
      obtain ⟨as, hr, hn⟩ := Dq.readsKv I S kvs xs (vs.map (·.2)) (by rw [e2]; exact ha) f2
      rw [← hk]
      refine ⟨_, Reads.dict (as := []) (bs := as) ho hx.1 hd ?_ ?_, fun z => ?_⟩
      · rw [e1, ← f1]; exact pairs_keys hp
      · rw [pairs_vals hp]; exact hr
      · have z : sysModules ∈ a :: as := z
        rcases List.mem_cons.mp z with z | z
        · exact absurd lo (by rw [← z]; simp)
        · exact hn z
    | _ => cases hk
theorem Dq.readsAll (I : Inv X pins σ H s) (S : SysD X.K) : ∀ (ds : List PyData) (vs : List V) (us : List Value), DqAll X.K H vs ds → Vals vs us → ∃ as, ReadsAll s.heap us ds as ∧ sysModules ∉ as
  | [], _, _, h, r => by
    cases h
    cases r
    exact ⟨_, ReadsAll.nil, List.not_mem_nil⟩
  | d :: ds, _, _, h, r => by
    cases h with
    | cons h1 h2 =>
      cases r with
      | cons r1 r2 =>
        obtain ⟨as, q1, n1⟩ := Dq.reads I S d _ _ h1 r1
        obtain ⟨bs, q2, n2⟩ := Dq.readsAll I S ds _ _ h2 r2
        exact ⟨_, ReadsAll.cons q1 q2, fun z => (List.mem_append.mp z).elim n1 n2⟩
theorem Dq.readsKv (I : Inv X pins σ H s) (S : SysD X.K) : ∀ (ds : List (PyData × PyData)) (vs : List V) (us : List Value), DqAll X.K H vs (ds.map (·.2)) → Vals vs us → ∃ as, ReadsAll s.heap us (ds.map (·.2)) as ∧ sysModules ∉ as
  | [], _, _, h, r => by
    cases h
    cases r
    exact ⟨_, ReadsAll.nil, List.not_mem_nil⟩
  | (k, d) :: ds, _, _, h, r => by
    cases h with
    | cons h1 h2 =>
      cases r with
      | cons r1 r2 =>
        obtain ⟨as, q1, n1⟩ := Dq.reads I S d _ _ h1 r1
        obtain ⟨bs, q2, n2⟩ := Dq.readsKv I S ds _ _ h2 r2
        exact ⟨_, ReadsAll.cons q1 q2, fun z => (List.mem_append.mp z).elim n1 n2⟩
end
theorem call_reprD (S : SysD X.K) (hG : X.A.guards = some []) (hu : X.A.units + 64 < cLine) : CallR X (.builtin "repr") (fun xs H Q => ∃ x d, xs = [x] ∧ Dq X.K H x d ∧ d.showable = true ∧ d.depth ≤ 40 ∧ d.shown.length ≤ sizeLine ∧ Q (.str d.shown) H) := by
  intro pins s σ H xs us Q I r h
  obtain ⟨x, d, rfl, dp, sh, de, sz, q⟩ := h
  obtain ⟨u, rfl, rx⟩ := vals1 r
  obtain ⟨as, rd, hn⟩ := Dq.reads I S d x u dp rx
  have rd' := rd
  cases rd with
  | none => exact PySem.P.repr_of_none ⟨.str _, H, I.tok _, ⟨_, rfl⟩, q⟩
  | bool b => exact PySem.P.repr_of_bool ⟨.str _, H, I.tok _, ⟨_, rfl⟩, q⟩
  | int i t => exact PySem.P.repr_of_int (by simpa [PyData.showable] using sh) ⟨.str _, H, I.tok _, ⟨_, rfl⟩, q⟩
  | str y t => exact PySem.P.repr_of_str ⟨.str _, H, I.tok _, ⟨_, rfl⟩, q⟩ sz
  | _ => exact repr_of_reads' rd' sh (fun _ => hn) hG (by omega) (fun _ _ e => e) (fun h' u tk kk => ⟨.str _, H, I.kept kk, ⟨_, rfl⟩, q⟩) sz
end
/-- the data of a value -/
def datR (h : AH) : Nat → Val → Option PyData
  | 0 => fun _ => none
  | n + 1 => fun v => match v with
    | .non => some .none
    | .bl b => some (.bool b)
    | .int i => some (.int i)
    | .str x => some (.str x)
    | .tup xs => (datW (datR h n) xs).map .tuple
    | .fd ks xs => (datW (datR h n) xs).map fun ds => .dict ((ks.map keyD).zip ds)
    | v => match lsV h v with
      | some xs => (datW (datR h n) xs).map .list
      | none => none
section
variable {K : KK} {r : Rg} {h : AH} {H : Hp}
def DqOk (K : KK) (r : Rg) (h : AH) (H : Hp) (f : Val → Option PyData) : Prop := ∀ (x : Val) (u : V) (d : PyData), RV K r H x u → f x = some d → Dq K H u d
theorem datqW_ok {f : Val → Option PyData} (hf : DqOk K r h H f) : ∀ (xs : List Val) (us : List V) (ds : List PyData), RVs K r H xs us → datW f xs = some ds → DqAll K H us ds
  | [], us, ds, q, e => by
    cases q
    cases e
    exact .nil
  | x :: xs, us, ds, q, e => by
    cases q with
    | cons a b =>
      unfold datW at e
      cases q1 : f x with
      | none => rw [q1] at e; cases e
      | some d =>
        rw [q1] at e
        dsimp only at e
        cases q2 : datW f xs with
        | none => rw [q2] at e; cases e
        | some es =>
          rw [q2] at e
          cases e
          exact .cons (hf _ _ _ a q1) (datqW_ok hf _ _ _ b q2)
theorem RV.fdIn {r' : Rg} {x : Val} {u : V} (q : RV K r H x u) (m : ∀ (n : Nat) (a : Addr), r.m[n]? = some a → r'.m[n]? = some a) (z : ∀ a, r.fz a → r'.fz a) (fh : ∀ a, r.fz a → ∃ o, H a = some o) : RV K r' H x u :=
  q.vo ⟨m, Keep.refl H, z, fun _ _ _ e => e⟩
theorem datR_ok (R : Rel K r h H) : ∀ (n : Nat), DqOk K r h H (datR h n) := by
  intro n
  induction n with
  | zero => intro x u d q e; cases e
  | succ n ih =>
    intro x u d q e
    have lists : ∀ xs, lsV h x = some xs → (datW (datR h n) xs).map .list = some d → Dq K H u d := fun xs e1 e2 => by
      cases e3 : datW (datR h n) xs with
      | none => rw [e3] at e2; cases e2
      | some ds =>
        rw [e3] at e2
        cases e2
        obtain ⟨a, us, rfl, s, t⟩ := R.lst q e1
        exact .lst s (datqW_ok ih _ _ _ t e3)
    have other : (match lsV h x with
      | some xs => (datW (datR h n) xs).map PyData.list
      | none => none) = some d → Dq K H u d := fun e => by
      cases e1 : lsV h x with
      | none => rw [e1] at e; cases e
      | some xs => rw [e1] at e; exact lists xs e1 e
    cases q with
    | non => cases e; exact .non
    | bl b => cases e; exact .bl b
    | int i => cases e; exact .int i
    | str y => cases e; exact .str y
    | tup s t =>
      rename_i us xs
      have e0 : (datW (datR h n) xs).map PyData.tuple = some d := e
      cases e3 : datW (datR h n) xs with
      | none => rw [e3] at e0; cases e0
      | some ds =>
        rw [e3] at e0
        cases e0
        exact .tup s (datqW_ok ih _ _ _ t e3)
    | fd z e1 hl t =>
      rename_i ks us xs
      have e0 : (datW (datR h n) xs).map (fun ds => PyData.dict ((ks.map keyD).zip ds)) = some d := e
      cases e3 : datW (datR h n) xs with
      | none => rw [e3] at e0; cases e0
      | some ds =>
        rw [e3] at e0
        cases e0
        refine .dk e1 hl (datqW_ok ih _ _ _ (RVs.vo (r := ⟨[], r.fz⟩) ⟨fun n a e => (by cases e), Keep.refl H, fun _ e => e, fun _ _ _ e => e⟩ t) e3)
    | ref _ => exact other e
    | fl _ _ _ => exact other e
    | sl _ _ => exact other e
    | ft _ _ _ _ => exact other e
    | ob _ _ _ _ _ => exact other e
    | ex _ _ _ => exact other e
end
def showOkD (d : PyData) : Bool := d.showable && (decide (d.depth ≤ 40) && decide (d.shown.length ≤ 16777216))
def cReprD (xs : List Val) (h : AH) : Option Val := match xs with
  | [x] => (match datR h 30 x with
    | some d => if showOkD d then some (.str d.shown) else none
    | none => none)
  | _ => none
theorem cm_reprD {K : KK} : CaM K (fun xs H Q => ∃ x d, xs = [x] ∧ Dq K H x d ∧ d.showable = true ∧ d.depth ≤ 40 ∧ d.shown.length ≤ sizeLine ∧ Q (.str d.shown) H) cReprD := by
  intro r h H xs us z Q R q e k
  unfold cReprD at e
  split at e
  · obtain ⟨u, rfl, qx⟩ := q.one
    split at e
    · rename_i d q1
      split at e
      · rename_i hs
        cases e
        have hb := Bool.and_eq_true_iff.mp hs
        have hb2 := Bool.and_eq_true_iff.mp hb.2
        exact ⟨u, d, rfl, datR_ok R 30 _ u d qx q1, hb.1, of_decide_eq_true hb2.1, by rw [sizeLine_eq]; exact of_decide_eq_true hb2.2, now k R (.str _)⟩
      · cases e
    · cases e
  · cases e
section
variable {X : Cx} {W : WX} {a : Expr} {es : List Expr} {mt : MA} {p pos : Pos}
theorem se_reprD {k : Nat} (S : SysD X.K) (hr : Room k X.A) (hG : X.A.guards = some []) (hm : X.mg "repr" = none) (ha : SA X W (a :: es) mt) (hg : Gl X "repr" := by rfl)
    (he : starEach (a :: es) X.env = (false, eval a X.env) :: starEach es X.env := by rfl) (hpl : (backTo pos (starEach es X.env)).any (·.1) = false := by rfl) : SE X W (.Call (.Name "repr" p) (a :: es) [] pos) (mCall cReprD mt) :=
  se_callB (call_reprD S hG (by have := hr.un; omega)) cm_reprD boot_repr hm ha hg (by decide) (by decide) he hpl
end
end Mr

set_option Elab.async false
set_option linter.all false
set_option maxRecDepth 100000
set_option maxHeartbeats 1000000
/-! ### != by an own __eq__ -/
namespace HNe
open PySem PySem.Spec PyProof.Rows PySem.SeqAt PySem.W
section
variable {M : Model} {prog : Program} {w : World} {A : Around} {E : Value → Shared → Prop} {s : Shared} {K : PySem.W.Frag} {x y C f L : Addr} {ox : Obj} {od : Option Obj} {h₀ : Heap} {m : Str → Option Value} {tb : Value}
theorem entry_ne (X : K.In s.heap) (I : InstAt s.heap x ox C od) (hu : A.units < cLine) (he : findIn K (.ref C) "__eq__" = some (some (.ref f))) (hf : isFn K (.ref f) = true) {Q : Fin → Shared → Prop}
    (hcall : wpAny M A (call (.ref f) [.ref x, .ref y]) (fun v s' => ∃ b, v = .bool b ∧ Q (.done (.ret (.bool (!b)))) s') E s) :
    wpAny M A (Builtin.«object.__ne__» ⟨[.ref x, .ref y], []⟩) Q E s := by
  unfold Builtin.«object.__ne__»
  repeat (first
    | with_reducible refine wpAny_cRoomFor hu ?_
    | (refine wpAny_bind (m := callSpecialIfBound? (.ref x) (Str.ofString "__eq__") [.ref y])
        (ifBound_K X I he hf (wpAny_mono hcall (fun r s' hr => by
          obtain ⟨b, rfl, hq⟩ := hr
          repeat (first | exact hq | exact wpAny_pure hq | exact wpAny_truthy_bool hq | (refine wpAny_bind (m := truthy (.bool _)) (wpAny_truthy_bool ?_)) | wp_step)) fun _ _ e => e)))
    | wp_step)
theorem call_objNe {Q : Value → Shared → Prop} (X : K.In s.heap) (I : InstAt s.heap x ox C od) (hu : A.units + 1 < cLine) (hm : mroIn K C (.type "object") = some true) (he : findIn K (.ref C) "__eq__" = some (some (.ref f))) (hf : isFn K (.ref f) = true)
    (hcall : wpAny (model prog w) A.in1 (call (.ref f) [.ref x, .ref y]) (fun v s' => ∃ b, v = .bool b ∧ Q (.bool (!b)) s') E s) :
    wpAny (model prog w) A (call (.builtin "object.__ne__") [.ref x, .ref y]) Q E s :=
  wpAny_call (codeAny_call_builtin F.cmp_object.ne.plain F.cmpEntry_ne (check_slot F.cmpKind_ne F.cmpSplit_ne (I.type.andThen (looks_mroIn X hm)) (F.cmpArgs_ne _ _) (entry_ne (A := A.in1) X I hu he hf hcall)))
theorem ifBound_objNe {args : List Value} {Q : Option Value → Shared → Prop} (X : K.In s.heap) (I : InstAt s.heap x ox C od) (hs : findIn K (.ref C) "__ne__" = some (some (.builtin "object.__ne__")))
    (h : wpAny M A (call (.builtin "object.__ne__") (.ref x :: args)) (fun v => Q (some v)) E s) : wpAny M A (callSpecialIfBound? (.ref x) "__ne__" args) Q E s := by
  simp only [callSpecialIfBound?, bindSpecialIfBound?]
  refine wpAny_holding (wpAny_bind (wpAny_bind (wpAny_bind (I.type.here ((looks_findIn X hs).here ?_)))))
  refine wpAny_bind (wpAny_askSetting (wpAny_ite ?_))
  have fin : wpAny M A (call (.builtin "object.__ne__") ([.ref x] ++ args) >>= fun v => pure (some v)) Q E s := wpAny_bind (wpAny_mono h (fun v s' h' => wpAny_pure h') fun _ _ h' => h')
  split
  · exact wpAny_bind (wpAny_of_eq (F.cmp_object.ne.bind _) (wpAny_pure (by exact fin)))
  · exact wpAny_tryCatch (wpAny_bind (wpAny_of_eq (F.cmp_object.ne.bind _) (wpAny_pure (by exact fin))))
theorem ne_K {Q : Value → Shared → Prop} (hu : A.units + 1 < cLine) (X : K.In s.heap) (I : InstAt s.heap x ox C od) (hb : Looks (model prog w) s.heap (typeOf (.ref y)) (.ref C))
    (hs : findIn K (.ref C) "__ne__" = some (some (.builtin "object.__ne__"))) (hm : mroIn K C (.type "object") = some true) (he : findIn K (.ref C) "__eq__" = some (some (.ref f))) (hf : isFn K (.ref f) = true)
    (h : wpAny (model prog w) A.in1 (call (.ref f) [.ref x, .ref y]) (fun v s' => ∃ r, v = .bool r ∧ Q (.bool (!r)) s') E s) : wpAny (model prog w) A (richCompare .NotEq (.ref x) (.ref y)) Q E s := by
  have one : wpAny (model prog w) A (tryCompare (.ref x) "__ne__" (.ref y)) (fun r s' => ∃ v, r = some v ∧ Q v s') E s := by
    unfold tryCompare
    refine wpAny_bind (ifBound_objNe X I hs (call_objNe X I hu hm he hf (wpAny_mono h (fun v s' hv => ?_) fun _ _ e => e)))
    obtain ⟨r, rfl, q⟩ := hv
    exact ⟨r, rfl, wpAny_pure ⟨_, rfl, q⟩⟩
  unfold richCompare
  simp only [oneThing_ref]
  refine wpAny_holding (wpAny_bind (wpAny_cRoomFor (Nat.lt_of_succ_lt hu) ?_))
  rw [cmpInfo_NotEq]
  dsimp only
  refine wpAny_bind (I.type.here (wpAny_bind (hb.here ?_)))
  rw [show (Value.ref C != Value.ref C) = false from by simp]
  simp only [Bool.false_eq_true, if_false]
  refine wpAny_bind (wpAny_pure ?_)
  simp only [Bool.false_eq_true, if_false]
  refine wpAny_bind (wpAny_mono one (fun r s' z => ?_) fun _ _ e => e)
  obtain ⟨v, rfl, hq⟩ := z
  exact wpAny_pure hq
end
end HNe
namespace GQ
open PySem PySem.SeqAt
open AutoSeq1 (wpAny_loadPart')
open MeetsSeq MeetsSeq2 MeetsSeq3 SeqRoads2
section
variable {prog : Program} {w : World} {A : Around} {R : Result → Shared → Prop}
theorem tuple_neG (l b : Addr) (items items2 : Array Value) (n n2 : Nat) (dd dd2 : Option Addr) (sl sl2 : Array (Option Value)) (hsz : items.size = items2.size) (I : Nat → Shared → Prop)
    (turn : ∀ i (h1 : i < items.size) (h2 : i < items2.size) s, I i s → wpAny (model prog w) A.in1 (eqBool items[i] items2[i]) (fun r s' => r = true ∧ I (i + 1) s') (fun e s' => R (.error e) s') s)
    (fin : ∀ s, I items.size s → R (.ok (.ret (.bool false))) s) {s : Shared} (hl1 : s.heap.get? l = some { cls := .type "tuple", dict := dd, data := .seq items n, slots := sl }) (hb1 : s.heap.get? b = some { cls := .type "tuple", dict := dd2, data := .seq items2 n2, slots := sl2 }) (h : I 0 s) :
    wpAny (model prog w) A.in1 (Builtin.«tuple.__ne__» ⟨[.ref l, .ref b], []⟩) (FinOf prog w A R) (fun e s' => R (.error e) s') s := by
  have f2 := AutoSeq1.sub_tuple_tuple
  have hZ : (items.toList.zip items2.toList).length = items.size := by simp [hsz]
  have h0 := h
  obtain ⟨hp, g, d, tk, os⟩ := s
  wp_walk using wpAny_loadPart' hl1, wpAny_loadPart' hb1, wpAny_forIn_list _ (fun rest b s' => b.1 = none ∧ ∃ i, rest = (items.toList.zip items2.toList).drop i ∧ i ≤ items.size ∧ I i s') _
  case turn =>
    rintro ⟨y, x⟩ rest b s' ⟨hb', i, hz, hi, hI⟩
    have hlt : i < (items.toList.zip items2.toList).length := by
      rcases Nat.lt_or_ge i (items.toList.zip items2.toList).length with h' | h'
      · exact h'
      · rw [List.drop_of_length_le h'] at hz; cases hz
    have h1 : i < items.size := hZ ▸ hlt
    have h2 : i < items2.size := hsz ▸ h1
    rw [List.drop_eq_getElem_cons hlt] at hz
    injection hz with hyx hrest
    have hy : y = items[i] := by have := congrArg Prod.fst hyx; simpa using this
    have hx : x = items2[i] := by have := congrArg Prod.snd hyx; simpa using this
    subst hy hx
    refine wpAny_bind (wpAny_mono (turn i h1 h2 s' hI) (fun r s2 q2 => ?_) fun _ _ x => x)
    obtain ⟨hr, q2⟩ := q2
    subst hr
    wp_walk
    exact ⟨rfl, i + 1, hrest, h1, q2⟩
  case fin =>
    rintro ⟨b1, b2⟩ s' ⟨hb', i, hz, hi, hI⟩
    simp only at hb'
    subst hb'
    have hge : items.size ≤ i := by
      rcases Nat.lt_or_ge i (items.toList.zip items2.toList).length with h' | h'
      · rw [List.drop_eq_getElem_cons h'] at hz; cases hz
      · exact hZ ▸ h'
    have hi' : i = items.size := by omega
    have hR : R (.ok (.ret (.bool false))) s' := fin s' (hi' ▸ hI)
    wp_walk
    simpa [Builtin.Tuple.tupleCompareSizes, hsz] using hR
  case h =>
    exact ⟨rfl, 0, rfl, Nat.zero_le _, h0⟩
end
section
variable {prog : Program} {w : World} {A : Around} {E : Value → Shared → Prop} {s : Shared}
theorem rc_tupNe {l b : Addr} {items items2 : Array Value} {Q : Value → Shared → Prop} (hsz : items.size = items2.size) (hu : A.units < cLine) (I : Nat → Shared → Prop)
    (hl : s.heap.IsTuple l items) (hb : s.heap.IsTuple b items2)
    (turn : ∀ i (h1 : i < items.size) (h2 : i < items2.size) s, I i s → wpAny (model prog w) A.in1 (eqBool items[i] items2[i]) (fun r s' => r = true ∧ I (i + 1) s') E s)
    (fin : ∀ s, I items.size s → Q (.bool false) s) (h : I 0 s) : wpAny (model prog w) A (richCompare .NotEq (.ref l) (.ref b)) Q E s := by
  obtain ⟨⟨cls, dd, data, sl⟩, ho, hc, n, hd⟩ := id hl
  obtain ⟨⟨cls2, dd2, data2, sl2⟩, ho2, hc2, n2, hd2⟩ := id hb
  simp only at hc hd hc2 hd2
  subst hc hd hc2 hd2
  refine wpAny_richCompare_same_room (op := .NotEq) ⟨_, ho, rfl⟩ ⟨_, ho2, rfl⟩ F.slot_tuple_ne (call_here F.slot_tuple_ne ⟨_, ho, rfl⟩ F.entry_tuple_ne (F.args_tuple_ne_2 _ _) ?_) hu
  exact tuple_neG (R := wants (fun v s' => v ≠ .notImplemented ∧ Q v s') E) l b items items2 n n2 dd dd2 sl sl2 hsz I turn (fun s' q => ⟨(fun x => nomatch x), fin s' q⟩) ho ho2 h
end
end GQ
namespace Mr
open PySem PySem.Spec PyProof.Rows L2
/-! ### == and != of values that hold instances with an own __eq__, where they are equal -/
structure SubG (X : Cx) (n : Nat) (A : Around) : Prop where
  room : Room n A
  fr : A.frames = X.A.frames
  gd : A.guards = some []
theorem SubG.in1 {X : Cx} {n : Nat} {A : Around} (s : SubG X (n + 1) A) : SubG X n A.in1 := ⟨s.room.in1, s.fr, s.gd⟩
theorem SubG.mono {X : Cx} {n m : Nat} {A : Around} (s : SubG X n A) (h : m ≤ n) : SubG X m A := ⟨s.room.mono h, s.fr, s.gd⟩
def EqX (X : Cx) (n : Nat) (D : Eqv) : Prop :=
  ∀ (A : Around) (pins : List (Addr × Obj)) (s : Shared) (σ : L2.St) (H : Hp) (x y : V) (u v : Value), SubG X n A → Inv X pins σ H s → RelV x u → RelV y v → D x y H →
    wpAny (model X.prog X.w) A (eqBool u v) (fun r s' => r = true ∧ ∃ H', Inv X pins σ H' s' ∧ Ext H H') X.xe s
section
variable {X : Cx} {n : Nat} {D D' : Eqv}
theorem EqX.mono {m : Nat} (h : EqX X n D) (hn : n ≤ m) : EqX X m D := fun A pins s σ H x y u v sb => h A pins s σ H x y u v (sb.mono hn)
theorem EqX.or (h : EqX X n D) (h' : EqX X n D') : EqX X n (fun x y H => D x y H ∨ D' x y H) := fun A pins s σ H x y u v sb I rx ry d => by
  rcases d with d | d
  · exact h A pins s σ H x y u v sb I rx ry d
  · exact h' A pins s σ H x y u v sb I rx ry d
theorem eqX_flat : EqX X 0 DFlat := by
  intro A pins s σ H x y u v sb I rx ry d
  obtain ⟨fx, fy, e⟩ := d
  have q := eqAt_V (A := A) (s := s) rx ry fx fy
  rw [e] at q
  exact q X.prog X.w X.xe _ ⟨rfl, H, I, Ext.rfl'⟩
/-- what the own == promises: only new things -/
def spEqX (R : Addr → Addr → Hp → Prop) : Sp := fun vs H Q _ => ∃ a b, vs = [.ref a, .ref b] ∧ R a b H ∧ ∀ H', Ext H H' → Q (.bl true) H'
variable {k : Nat} {C f : Addr} {fd : FuncData} {ps : List Str} {R : Addr → Addr → Hp → Prop}
theorem call_own (F : FnG X.prog X.w X.K X.mg X.base (L2.CX X.prog X.w) k f fd ps (spEqX R)) (hb : Binds X.K fd ps []) {A : Around} {pins : List (Addr × Obj)} {s : Shared} {σ : L2.St} {H : Hp} {a b : Addr} (sb : SubG X k A) (I : Inv X pins σ H s) (hr : R a b H) :
    wpAny (model X.prog X.w) A (call (.ref f) [.ref a, .ref b]) (fun v s' => v = .bool true ∧ ∃ H', Inv X pins σ H' s' ∧ Ext H H') X.xe s := by
  have hsp : spEqX R [.ref a, .ref b] H (fun v H' => v = .bl true ∧ Ext H H') (fun _ _ _ => False) := ⟨a, b, rfl, hr, fun H' e => ⟨rfl, e⟩⟩
  have e0 : Env0 X.prog X.w X.K X.mg X.base A X.stack s H := by
    have e := I.env0
    exact ⟨by rw [sb.fr]; exact e.frames, e.mod, e.bs, e.bsz, e.funs, e.frf, e.hok, e.bare⟩
  have hl := F.ln _ _ _ _ hsp
  have r2 : Vals [V.ref a, V.ref b] [Value.ref a, Value.ref b] := .cons rfl (.cons rfl .nil)
  refine wpAny_call (codeAny_mono (F.go A X.stack s H ⟨[.ref a, .ref b], []⟩ [.ref a, .ref b] [.ref a, .ref b] _ _ sb.room sb.gd e0 (by
    have := hb s [.ref a, .ref b] I.kIn (by simpa using hl)
    simpa using this) r2 hsp) fun r s' hq => ?_)
  cases r with
  | error e =>
    obtain ⟨_, _, _, _, _, _, _, _, _, _, _, _, z⟩ := hq
    exact z.elim
  | ok fl =>
    cases fl with
    | ret w =>
      obtain ⟨z, H', I', rz, ez, ex⟩ := I.after hq
      subst ez
      cases rz
      exact ⟨rfl, H', I', ex⟩
    | next => exact False.elim hq
    | brk => exact False.elim hq
    | cont => exact False.elim hq
/-- the class facts of an own == -/
structure EqC (K : PySem.W.Frag) (C f : Addr) : Prop where
  eq : PySem.W.findIn K (.ref C) "__eq__" = some (some (.ref f))
  fn : PySem.W.isFn K (.ref f) = true
  ne : PySem.W.findIn K (.ref C) "__ne__" = some (some (.builtin "object.__ne__"))
  ob : PySem.W.mroIn K C (.type "object") = some true
theorem eqX_ins (F : FnG X.prog X.w X.K X.mg X.base (L2.CX X.prog X.w) k f fd ps (spEqX R)) (hb : Binds X.K fd ps []) (E : EqC X.K C f) : EqX X k (DIns C R) := by
  intro A pins s σ H x y u v sb I rx ry d
  obtain ⟨a, b, dx, dy, fs, gs, rfl, rfl, ha, hb', hr⟩ := d
  cases rx
  cases ry
  by_cases hab : a = b
  · subst hab
    exact SeqAt.EqAt.same (A := A) (s := s) (.ref a) X.prog X.w X.xe _ ⟨rfl, H, I, Ext.rfl'⟩
  obtain ⟨mA, J, _⟩ := ins_get I.hok ha
  obtain ⟨mB, J', _⟩ := ins_get I.hok hb'
  obtain ⟨od, J, _⟩ := J.look
  obtain ⟨od', J', _⟩ := J'.look
  obtain ⟨m, hF⟩ := I.fr
  refine GQ.eqBool_refG hab (PySem.W.cmp_K (op := .Eq) (tb := .ref C) sb.room.units0 hF I.ok.mod.kin J J'.type (by simp [PySem.W.notFirst]) E.eq E.fn ?_)
  refine wpAny_mono (call_own F hb sb I hr) (fun v s' q => ?_) fun _ _ z => z
  obtain ⟨rfl, q⟩ := q
  exact ⟨true, rfl, rfl, q⟩
theorem ne_ins (F : FnG X.prog X.w X.K X.mg X.base (L2.CX X.prog X.w) k f fd ps (spEqX R)) (hb : Binds X.K fd ps []) (E : EqC X.K C f) {A : Around} {pins : List (Addr × Obj)} {s : Shared} {σ : L2.St} {H : Hp} {x y : V} {u v : Value} (sb : SubG X (k + 1) A) (I : Inv X pins σ H s) (rx : RelV x u) (ry : RelV y v) (d : DIns C R x y H) :
    wpAny (model X.prog X.w) A (richCompare .NotEq u v) (fun r s' => r = .bool false ∧ ∃ H', Inv X pins σ H' s' ∧ Ext H H') X.xe s := by
  obtain ⟨a, b, dx, dy, fs, gs, rfl, rfl, ha, hb', hr⟩ := d
  cases rx
  cases ry
  obtain ⟨mA, J, _⟩ := ins_get I.hok ha
  obtain ⟨mB, J', _⟩ := ins_get I.hok hb'
  obtain ⟨od, J, _⟩ := J.look
  obtain ⟨od', J', _⟩ := J'.look
  refine HNe.ne_K (by have := sb.room.un; omega) I.kIn J J'.type E.ne E.ob E.eq E.fn (wpAny_mono (call_own F hb sb.in1 I hr) (fun v s' q => ?_) fun _ _ z => z)
  obtain ⟨rfl, q⟩ := q
  exact ⟨true, rfl, rfl, q⟩
theorem turnX (hD : Mon D) (h : EqX X n D) {A : Around} (sb : SubG X (n + 1) A) {pins : List (Addr × Obj)} {σ : L2.St} {H : Hp} {xs ys : List V} {its its2 : List Value} (p : Prs D xs ys H) (r : Vals xs its) (r2 : Vals ys its2)
    (i : Nat) (h1 : i < its.toArray.size) (h2 : i < its2.toArray.size) (s' : Shared) (l : LoopI X pins σ H s') :
    wpAny (model X.prog X.w) A.in1 (eqBool its.toArray[i] its2.toArray[i]) (fun r s2 => r = true ∧ LoopI X pins σ H s2) X.xe s' := by
  obtain ⟨H1, I1, e1⟩ := l
  have g1 : its[i]? = some its.toArray[i] := by
    have h1' : i < its.length := by simpa using h1
    rw [List.getElem?_eq_getElem h1'] <;> simp
  have g2 : its2[i]? = some its2.toArray[i] := by
    have h2' : i < its2.length := by simpa using h2
    rw [List.getElem?_eq_getElem h2'] <;> simp
  have k1 : i < xs.length := by rw [r.length]; simpa using h1
  have k2 : i < ys.length := by rw [r2.length]; simpa using h2
  obtain ⟨u, hu, ru⟩ := r.get (List.getElem?_eq_getElem k1)
  obtain ⟨v, hv, rv⟩ := r2.get (List.getElem?_eq_getElem k2)
  rw [g1] at hu
  rw [g2] at hv
  rw [Option.some.inj hu, Option.some.inj hv]
  refine wpAny_mono (h A.in1 pins s' σ H1 _ _ u v sb.in1 I1 ru rv (hD _ _ _ _ e1 (p.2 i _ _ (List.getElem?_eq_getElem k1) (List.getElem?_eq_getElem k2)))) (fun r s2 q => ?_) fun _ _ x => x
  obtain ⟨hr, H2, I2, e2⟩ := q
  exact ⟨hr, H2, I2, e1.trans e2⟩
theorem ne_tup (hD : Mon D) (h : EqX X n D) {A : Around} {pins : List (Addr × Obj)} {s : Shared} {σ : L2.St} {H : Hp} {x y : V} {u v : Value} (sb : SubG X (n + 1) A) (I : Inv X pins σ H s) (rx : RelV x u) (ry : RelV y v) (d : DTup X.K D x y H) :
    wpAny (model X.prog X.w) A (richCompare .NotEq u v) (fun r s' => r = .bool false ∧ ∃ H', Inv X pins σ H' s' ∧ Ext H H') X.xe s := by
  obtain ⟨a, b, xs, ys, rfl, rfl, ha, hb, p⟩ := d
  cases rx
  cases ry
  obtain ⟨its, r, e, z⟩ := I.tuple ha
  obtain ⟨its2, r2, e2, z2⟩ := I.tuple hb
  have hsz : its.toArray.size = its2.toArray.size := by rw [List.size_toArray, List.size_toArray, ← r.length, ← r2.length]; exact p.1
  exact GQ.rc_tupNe hsz sb.room.units0 (fun _ s' => LoopI X pins σ H s') e e2 (fun i h1 h2 s' q => turnX hD h sb p r r2 i h1 h2 s' q) (fun s' q => ⟨rfl, q⟩) ⟨H, I, Ext.rfl'⟩
end
end Mr

set_option Elab.async false
set_option linter.all false
set_option maxRecDepth 100000
set_option maxHeartbeats 1000000
namespace Mr
open PySem PySem.Spec PyProof.Rows L2
/-! ### instances of own classes -/
/-- what an own class without odd things has -/
structure OwnC (K : PySem.W.Frag) (C : Addr) : Prop where
  cl : Cls K C
  k1 : PySem.W.findIn K (.ref C) "__class__" = some (some (.builtin "object.__class__"))
  k2 : PySem.W.specialIn K (.builtin "object.__class__") "__get__" = some (some (.builtin "getset_descriptor.__get__"))
  k3 : PySem.W.takesIn K (.builtin "object.__class__") = some true
  k4 : PySem.W.mroIn K C (.type "object") = some true
def ownB (K : PySem.W.Frag) (C : Addr) : Bool := PySem.W.plainGet K C Str.empty && (PySem.W.hasDictIn K C && (PySem.W.plainOver K C && (He.eqO (PySem.W.findIn K (.ref C) "__setattr__") (some (some (.builtin "object.__setattr__"))) &&
  (He.eqO (PySem.W.findIn K (.ref C) "__class__") (some (some (.builtin "object.__class__"))) && (He.eqO (PySem.W.specialIn K (.builtin "object.__class__") "__get__") (some (some (.builtin "getset_descriptor.__get__"))) &&
  (decide (PySem.W.takesIn K (.builtin "object.__class__") = some true) && decide (PySem.W.mroIn K C (.type "object") = some true)))))))
theorem ownB_ok {K : PySem.W.Frag} {C : Addr} (h : ownB K C = true) : OwnC K C := by
  unfold ownB at h
  obtain ⟨h1, h⟩ := He.ba h
  obtain ⟨h2, h⟩ := He.ba h
  obtain ⟨h3, h⟩ := He.ba h
  obtain ⟨h4, h⟩ := He.ba h
  obtain ⟨h5, h⟩ := He.ba h
  obtain ⟨h6, h⟩ := He.ba h
  obtain ⟨h7, h8⟩ := He.ba h
  exact ⟨⟨h1, h2, h3, He.eqO_ok h4⟩, He.eqO_ok h5, He.eqO_ok h6, of_decide_eq_true h7, of_decide_eq_true h8⟩
section
variable {K : KK} {r r1 r2 : Rg} {H H2 : Hp} {h h1 h2 : AH}
def obOf (h : AH) : Val → Option (Str × List Str × List Val)
  | .ob c ns vs => some (c, ns, vs)
  | .ref n => match h[n]? with
    | some (.ob c ns vs) => some (c, ns, vs)
    | some (.fz (.ob c ns vs)) => some (c, ns, vs)
    | _ => none
  | _ => none
theorem Rel.obj {x : Val} {u : V} {c : Str} {ns : List Str} {vs : List Val} (R : Rel K r h H) (q : RV K r H x u) (e : obOf h x = some (c, ns, vs)) :
    ∃ a C dx us, u = .ref a ∧ K.ct c = some C ∧ H a = some (.ins C dx (ns.zip us)) ∧ ns.length = us.length ∧ RVs K r H vs us := by
  cases q with
  | ob z hc e1 hl t =>
    cases e
    exact ⟨_, _, _, _, rfl, hc, e1, hl, RVs.up t⟩
  | @ref _ _ n a ea =>
    unfold obOf at e
    dsimp only at e
    split at e
    · rename_i q1
      cases e
      obtain ⟨us, C, dx, f1, f2, f3, f4⟩ := R.ob n a _ ea q1
      exact ⟨a, C, dx, us, rfl, f1, f2, f3, f4⟩
    · rename_i q1
      cases e
      have q2 : RV K r.lo H (.ob c ns vs) (.ref a) := R.ob n a _ ea q1
      cases q2 with
      | ob z hc e1 hl t => exact ⟨_, _, _, _, rfl, hc, e1, hl, RVs.up t⟩
    · cases e
  | _ => cases e
theorem look_zip {f : Str} : ∀ {ns : List Str} {xs : List Val} {us : List V} {v : Val}, ns.length = us.length → RVs K r H xs us → (ns.zip xs).lookup f = some v → ∃ u, (ns.zip us).lookup f = some u ∧ RV K r H v u
  | [], _, _, _, _, _, e => by cases e
  | n :: ns, _, _, _, hl, .nil, e => by cases hl
  | n :: ns, _, _, v, hl, .cons a b, e => by
    rw [List.zip_cons_cons, List.lookup_cons] at e ⊢
    split at e
    · cases e
      exact ⟨_, rfl, a⟩
    · exact look_zip (Nat.succ.inj hl) b e
/-- the field f of an instance -/
def fldO (f : Str) (ok : Str → Bool) (x : Val) (h : AH) : Option Val := match obOf h x with
  | some (c, ns, vs) => if ok c then (ns.zip vs).lookup f else none
  | none => none
def putN (f : Str) (ns : List Str) : Option (List Str) := if ns.contains f then none else some (ns ++ [f])
theorem putF_new {f : Str} {y : V} : ∀ {ns : List Str} {us : List V}, ns.length = us.length → ns.contains f = false → putF f y (ns.zip us) = (ns ++ [f]).zip (us ++ [y])
  | [], [], _, _ => rfl
  | [], _ :: _, hl, _ => by cases hl
  | _ :: _, [], hl, _ => by cases hl
  | n :: ns, u :: us, hl, hn => by
    rw [List.contains_cons, Bool.or_eq_false_iff] at hn
    have hne : ¬ n = f := fun z => by
      have := hn.1
      rw [z] at this
      simp at this
    rw [List.zip_cons_cons, putF, if_neg hne, putF_new (Nat.succ.inj hl) hn.2]
    rfl
/-- a new field -/
def stF (f : Str) (ok : Str → Bool) (o v : Val) (h : AH) : Option AH := match o with
  | .ref n => (match h[n]? with
    | some (.ob c ns vs) => if ok c && (!ns.contains f && decide (ns.length < 1000)) then some (h.set n (.ob c (ns ++ [f]) (vs ++ [v]))) else none
    | _ => none)
  | _ => none
def mSetF (f : Str) (ok : Str → Bool) (mo m : ME) : MS := fun sl => sB (m sl) sl fun v => sB (mo sl) sl fun o h => (stF f ok o v h).map fun h' => (.nx sl, h')
end
section
variable {X : Cx} {W : WX} {e o : Expr} {m mo : ME} {f : Str} {ok : Str → Bool} {pos pos' : Pos}
theorem se_fldO (hc : ∀ c C, ok c = true → X.kk.ct c = some C → Cls X.K C ∧ NoAttr X.K C f) (he : SE X W e m) (hb : attributeBase e f X.env (eval e X.env) = eval e X.env := by rfl) : SE X W (.Attribute e f pos) (mUn (fldO f ok) m) := PE.imp (pe_fld he hb) fun s H Q ⟨r, h, sl, R, S, o1⟩ => by
  refine ⟨r, h, sl, R, S, o1.split.mono fun x r1 h1 H1 g1 R1 o2 u q1 => ?_⟩
  obtain ⟨v, e, k⟩ := o2.lft
  unfold fldO at e
  cases q2 : obOf h1 x with
  | none => rw [q2] at e; cases e
  | some z =>
    obtain ⟨c, ns, vs⟩ := z
    rw [q2] at e
    dsimp only at e
    split at e
    · rename_i hk
      obtain ⟨a, C, dx, us, rfl, f1, f2, f3, f4⟩ := R1.obj q1 q2
      obtain ⟨w, e2, q3⟩ := look_zip f3 f4 e
      obtain ⟨c1, c2⟩ := hc c C hk f1
      exact ⟨a, C, dx, _, w, rfl, f2, c1, c2, e2, now k R1 q3⟩
    · cases e
theorem ss_setF (hc : ∀ c C, ok c = true → X.kk.ct c = some C → Cls X.K C ∧ NoAttr X.K C f) (ho : SE X W o mo) (he : SE X W e m) (hs : swapsWith e (some (.Attribute o f pos')) pos.line X.env = pure false := by rfl) :
    SS X W (.Assign [.Attribute o f pos'] e pos) (mSetF f ok mo m) := PS.imp (ps_fld ho he hs) fun D s H ⟨r, h, sl, R, S, z⟩ => by
  refine ⟨r, h, sl, R, S, (z.sB S).mono fun v r1 h1 H1 g1 R1 z1 u q1 => ⟨r1, h1, sl, R1, S.go g1, (OutS.sB z1 (S.go g1)).mono fun o r2 h2 H2 g2 R2 z2 w q2 => ?_⟩⟩
  have q1' := q1.go g2
  have S3 := S.go (g1.trans g2)
  cases e4 : stF f ok o v h2 with
  | none => rw [e4] at z2; exact z2.elim
  | some h4 =>
    rw [e4] at z2
    unfold stF at e4
    split at e4
    · rename_i n
      cases q2 with
      | @ref _ _ _ a ea =>
        split at e4
        · rename_i c ns vs q4
          split at e4
          · rename_i hk
            cases e4
            have hb := Bool.and_eq_true_iff.mp hk
            have hb2 := Bool.and_eq_true_iff.mp hb.2
            have hn : ns.contains f = false := by simpa using hb2.1
            obtain ⟨us, C, dx, f1, f2, f3, f4⟩ := R2.ob n a _ ea q4
            obtain ⟨c1, c2⟩ := hc c C hb.1 f1
            refine ⟨a, C, dx, _, rfl, f2, c1, c2, ?_, ?_⟩
            · rw [List.length_zip]
              have := of_decide_eq_true hb2.2
              omega
            · rw [putF_new f3 hn]
              have g4 : Go r2 H2 r2 (upd H2 a (.ins C dx ((ns ++ [f]).zip (us ++ [u])))) := go_set R2 ea q4 rfl f2 trivial
              have R4 : Rel X.kk r2 (h2.set n (.ob c (ns ++ [f]) (vs ++ [v]))) (upd H2 a (.ins C dx ((ns ++ [f]).zip (us ++ [u])))) :=
                R2.set ea q4 rfl f2 trivial ⟨us ++ [u], C, dx, f1, upd_same, by rw [List.length_append, List.length_append, f3]; rfl, (f4.append (.cons q1' .nil)).go g4⟩
              exact z2 r2 _ g4 R4 s (S3.go g4)
          · cases e4
        · cases e4
    · cases e4
/-- isinstance(e, C), C an own class -/
def isOV (tab : Str → Option Bool) (tt : String → Option Bool) (x : Val) (h : AH) : Option Val := match obOf h x with
  | some (c, _, _) => (tab c).map .bl
  | none => match tyName h x with
    | some t => (tt t).map .bl
    | none => none
theorem se_isO {y : Str} {D : Addr} {tab : Str → Option Bool} {tt : String → Option Bool} {p p2 : Pos} (hm : X.mg "isinstance" = none) (hmy : X.mg y = some (.ref D)) (hk : ∀ c C b, tab c = some b → X.kk.ct c = some C → OwnC X.K C ∧ PySem.W.kitOne X.K (.ref C) (.ref D) = some b) (ht : ∀ t b, tt t = some b → PySem.W.kitOne X.K (.type t) (.ref D) = some b) (he : SE X W e m)
    (hg : Gl X "isinstance" := by rfl) (hgy : Gl X y := by rfl) (hdy : (y == ("__debug__" : Str)) = false := by decide)
    (hs : starEach [e, .Name y p2] X.env = (false, eval e X.env) :: starEach [.Name y p2] X.env := by rfl) (hs2 : starEach [.Name y p2] X.env = (false, eval (.Name y p2) X.env) :: starEach [] X.env := by rfl) (hpl : (backTo pos (starEach [.Name y p2] X.env)).any (·.1) = false := by rfl) :
    SE X W (.Call (.Name "isinstance" p) [e, .Name y p2] [] pos) (mUn (isOV tab tt) m) := by
  have pc : PA X [e, .Name y p2] (tCons (tE X.kk W m) (tCons (tC (.ref D)) tNil)) := pa_cons he (pa_cons (pe_glob (v := .ref D) hgy hmy rfl hdy) pa_nil hs2) hs
  refine PE.imp (pe_callB (p := p) call_isi hg hm (by decide +kernel) pc (by decide) (by decide) hs hpl) fun s H Q ⟨r, h, sl, R, S, o1⟩ => ?_
  refine ⟨r, h, sl, R, S, o1.split.mono fun x r1 h1 H1 g1 R1 o2 u q1 => ?_⟩
  obtain ⟨v, e, k⟩ := o2.lft
  unfold isOV at e
  split at e
  · rename_i c ns vs q2
    cases q3 : tab c with
    | none => rw [q3] at e; cases e
    | some b =>
      rw [q3] at e
      cases e
      obtain ⟨a, C, dx, us, rfl, f1, f2, f3, f4⟩ := R1.obj q1 q2
      obtain ⟨c1, c2⟩ := hk c C b q3 f1
      exact ⟨_, .ref D, .ref C, .ref D, b, rfl, .own D, .base (.ins f2 c1.cl c1.k1 c1.k2 c1.k3 c1.k4), c2, now k R1 (.bl b)⟩
  · split at e
    · rename_i t q2
      cases q3 : tt t with
      | none => rw [q3] at e; cases e
      | some b =>
        rw [q3] at e
        cases e
        exact ⟨u, .ref D, .type t, .ref D, b, rfl, .own D, R1.ty q1 q2, ht t b q3, now k R1 (.bl b)⟩
    · cases e
end
/-! ### C(..) -/
section
variable {X : Cx} {CX : CXT} {k : Nat} {C f : Addr} {fd : FuncData} {ps : List Str} {sp : Sp} {dvs : List V} {ds : List Value} {W : WX} {x : Str} {p pos : Pos} {e : Expr} {es : List Expr} {t : TA}
theorem goes_make {pins : List (Addr × Obj)} {σ : L2.St} {H : Hp} {s : Shared} {Q : VK} {us : List Value} {vs : List V} {E : XK} (M : Mk X.K C f) (F : FnG X.prog X.w X.K X.mg X.base CX k f fd ps sp) (hr : Room (k + 1) X.A) (hG : X.A.guards = some []) (hb : Binds X.K fd ps ds) (hd : Vals dvs ds)
    (hx : PassesAt CX X σ E) (I : Inv X pins σ H s) (r : Vals vs us)
    (h : ∀ x dx, H x = none → H dx = none → dx ≠ x → sp (.ref x :: (vs ++ dvs)) (upd (upd H dx (.own x)) x (.ins C dx [])) (fun v H2 => v = .non ∧ Q (.ref x) H2) E) :
    wpAny (model X.prog X.w) X.A (call (.ref C) us) (EP X pins σ Q) X.xe s := by
  have hq := h (s.heap.objs.size + 1) s.heap.objs.size (I.hok.fresh (Nat.le_succ _)) (I.hok.fresh (Nat.le_refl _)) (Nat.ne_of_lt (Nat.lt_succ_self _))
  have I2 := Inv.made (C := C) I
  have r2 : Vals (V.ref (s.heap.objs.size + 1) :: (vs ++ dvs)) (Value.ref (s.heap.objs.size + 1) :: (us ++ ds)) := .cons rfl (r.append hd)
  have hl : (Value.ref (s.heap.objs.size + 1) :: us ++ ds).length = ps.length := by
    have e := r2.length
    rw [F.ln _ _ _ _ hq] at e
    exact e.symm
  refine wpAny_call (make_map (f := f) I.kIn M.makes M.init (beq_iff_eq.mp M.fn) (codeAny_mono (F.go _ X.stack _ _ ⟨Value.ref (s.heap.objs.size + 1) :: us, []⟩ (Value.ref (s.heap.objs.size + 1) :: (us ++ ds)) _ _ E (hr.make C us []) (by first | exact hG | (simpa [Around.under, Code.envs, Code.isFrame, pushEnvs] using hG))
    (I2.env0.make C us []) (hb _ (Value.ref (s.heap.objs.size + 1) :: us) I2.kIn hl) r2 hq) fun r s' hq' => ?_))
  cases r with
  | error e => exact hx pins _ _ e s' I2 hq'
  | ok fl =>
    cases fl with
    | ret u =>
      obtain ⟨v, H', I3, rv, ev, q3⟩ := I2.after hq'
      subst ev
      exact ⟨rv, ⟨V.ref (s.heap.objs.size + 1), H', I3, rfl, q3⟩⟩
    | next => exact False.elim hq'
    | brk => exact False.elim hq'
    | cont => exact False.elim hq'
theorem pe_gmake (M : Mk X.K C f) (F : FnG X.prog X.w X.K X.mg X.base (L2.CX X.prog X.w) k f fd ps sp) (hr : Room (k + 1) X.A) (hG : X.A.guards = some []) (hg : Gl X x) (hm : X.mg x = some (.ref C)) (hb : Binds X.K fd ps ds) (hd : Vals dvs ds) (tk : Takes X W)
    (ha : PA X (e :: es) t) (hdb : (x == ("__debug__" : Str)) = false := by decide) (he : starEach (e :: es) X.env = (false, eval e X.env) :: starEach es X.env := by rfl) (hpl : (backTo pos (starEach es X.env)).any (·.1) = false := by rfl) :
    PE X (.Call (.Name x p) (e :: es) [] pos) (fun σ H Q => t σ H fun vs H1 => ∀ x dx, H1 x = none → H1 dx = none → dx ≠ x →
      sp (.ref x :: (vs ++ dvs)) (upd (upd H1 dx (.own x)) x (.ins C dx [])) (fun v H2 => v = .non ∧ Q (.ref x) H2) fun cls d H' => W cls d σ H') :=
  ⟨fun pins s σ H Q I h => wpAny_Call_Name_kw (ld_glob I hg hm (PySem.W.callWith_K (h₀ := X.base) I.ok.mod.kin M.kp (thn (ha.run pos pins s σ H _ I h) fun _ _ ⟨_, _, I1, r, q⟩ => ⟨I1.kIn, goes_make M F hr hG hb hd (passAt tk σ) I1 r q⟩) he hpl) hdb)⟩
end
/-- C(..): a new instance, by value -/
def newV (c : Str) (f : List Val → M Val) (xs : List Val) : M Val := bnd (fzL xs) fun ys h1 => match f (.ref 0 :: ys) [.ob c [] []] with
  | .ok v h2 => (match v with
    | .non => (match frz 8 (.ref 0) h2 with
      | some (w, _) => .ok w h1
      | none => .bad)
    | _ => .bad)
  | .exc c fl v _ => .exc c fl v h1
  | .bad => .bad
def mNew (c : Str) (f : List Val → M Val) (dm : List Val) (t : MA) : ME := fun sl => bnd (t sl) fun xs => newV c f (xs ++ dm)
section
variable {K : KK} {r r1 r2 : Rg} {H H2 : Hp} {h h1 h2 : AH}
theorem newV_ok {c : Str} {C : Addr} {f : List Val → M Val} {n : Nat} {xs : List Val} {us : List V} {Q : VK} {E : XK} (hC : K.ct c = some C) (hn : ∀ xs h, f xs h ≠ .bad → xs.length = n) (R : Rel K r h H) (q : RVs K r H xs us) (o : Out K r H (newV c f xs h) (fun v r' h' H' => ∀ u, RV K r' H' v u → Q u H') E)
    (x dx : Addr) (nx : H x = none) (nd : H dx = none) (ne : dx ≠ x) : spM K f n (.ref x :: us) (upd (upd H dx (.own x)) x (.ins C dx [])) (fun v H2 => v = .non ∧ Q (.ref x) H2) E := by
  unfold newV fzL bnd at o
  dsimp only at o
  cases e1 : frzs (frz 8) xs h with
  | none => rw [e1] at o; exact o.elim
  | some z =>
    obtain ⟨ys, h1⟩ := z
    rw [e1] at o
    dsimp only at o
    obtain ⟨r1, m1, g1, R1, q1⟩ := fzL_ok R q e1
    have st : ∀ a u, H a = some u → upd (upd H dx (.own x)) x (.ins C dx []) a = some u := fun a u e => by
      rw [upd_ne (ne_of_none e nx), upd_ne (ne_of_none e nd)]; exact e
    have g0 : Go r1.lo H ⟨[x], r1.fz⟩ (upd (upd H dx (.own x)) x (.ins C dx [])) :=
      ⟨⟨fun n a e => (by cases e), Keep.all st, fun _ z => z, fun a u _ e => st a u e⟩, fun a u e _ => st a u e, fun a z => .inr (by rw [List.mem_singleton.mp z]; exact nx), fun _ z => .inl z⟩
    have R0 : Rel K ⟨[x], r1.fz⟩ [.ob c [] []] (upd (upd H dx (.own x)) x (.ins C dx [])) := by
      refine ⟨rfl, fun i j b e1 e2 => ?_, fun i b o' e1 e2 => ?_, fun i b o' e1 e2 mt z => ?_, fun a z => ?_, fun b z => ?_⟩
      · match i, j, e1, e2 with
        | 0, 0, _, _ => rfl
        | 0, j + 1, _, e2 => cases e2
        | i + 1, _, e1, _ => cases e1
      · match i, e1, e2 with
        | 0, e1, e2 =>
          cases e1; cases e2
          exact ⟨[], C, dx, hC, upd_same, rfl, .nil⟩
        | i + 1, e1, _ => cases e1
      · match i, e1, e2 with
        | 0, e1, e2 =>
          cases e1
          obtain ⟨u, e⟩ := R1.fd x z
          rw [nx] at e; cases e
        | i + 1, e1, _ => cases e1
      · obtain ⟨u, e⟩ := R1.fd a z
        exact ⟨u, st a u e⟩
      · rw [List.mem_singleton.mp z]
        exact ⟨_, upd_same⟩
    have qy : RVs K ⟨[x], r1.fz⟩ (upd (upd H dx (.own x)) x (.ins C dx [])) (.ref 0 :: ys) (.ref x :: us) := .cons (.ref rfl) (RVs.vo g0.toVo q1)
    have hl : (V.ref x :: us).length = n := by
      rw [qy.length]
      refine hn _ [.ob c [] []] fun z => ?_
      rw [z] at o
      exact o.elim
    refine ⟨hl, _, _, _, R0, qy, ?_⟩
    cases e2 : f (.ref 0 :: ys) [.ob c [] []] with
    | bad => rw [e2] at o; exact o.elim
    | exc c fl v h2 =>
      rw [e2] at o
      intro r2 H2 u d C g2 R2 qu hc hd
      obtain ⟨ga, Ra⟩ := iso_back R1 (g0.trans g2) R2
      exact o _ _ u d C (g1.trans ga) Ra qu hc hd
    | ok v h2 =>
      rw [e2] at o
      dsimp only at o
      cases v with
      | non =>
        dsimp only at o
        cases e3 : frz 8 (.ref 0) h2 with
        | none => rw [e3] at o; exact o.elim
        | some y =>
          obtain ⟨w, h3⟩ := y
          rw [e3] at o
          intro r2 H2 g2 R2 u qu
          cases qu
          have q0 : RV K r2 H2 (.ref 0) (.ref x) := .ref (g2.pre 0 x rfl)
          obtain ⟨r3, m3, g3, R3, q3⟩ := frz_ok 8 _ h2 w h3 r2 _ R2 q0 e3
          obtain ⟨ga, Ra⟩ := iso_back R1 ((g0.trans g2).trans g3) R3
          exact ⟨rfl, o _ _ (g1.trans ga) Ra _ (RV.up (r := ⟨r1.m, r3.fz⟩) q3)⟩
      | _ => exact o.elim
end
section
variable {X : Cx} {W : WX} {k n : Nat} {f C : Addr} {fd : FuncData} {ps : List Str} {x : Str} {p pos : Pos} {e : Expr} {es : List Expr} {mt : MA} {size : Nat} {b : MS} {dvs : List V} {dm : List Val}
theorem se_new (M : L2.Mk X.K C f) (F : FnG X.prog X.w X.K X.mg X.base (L2.CX X.prog X.w) k f fd ps (spM X.kk (mFn n size b) n)) (tk : Takes X W) (hr : Room (k + 1) X.A) (hG : X.A.guards = some []) (hm : X.mg x = some (.ref C)) (hb : ∃ ds, Vals dvs ds ∧ Binds X.K fd ps ds) (hdm : ∀ r H, RVs X.kk r H dm dvs) (hC : X.kk.ct x = some C) (ha : SA X W (e :: es) mt)
    (hg : Gl X x := by rfl) (hdb : (x == ("__debug__" : Str)) = false := by decide) (he : starEach (e :: es) X.env = (false, eval e X.env) :: starEach es X.env := by rfl) (hpl : (backTo pos (starEach es X.env)).any (·.1) = false := by rfl) :
    SE X W (.Call (.Name x p) (e :: es) [] pos) (mNew x (mFn n size b) dm mt) := by
  obtain ⟨ds, hd, hb⟩ := hb
  refine PE.imp (pe_gmake M F hr hG hg hm hb hd tk ha hdb he hpl) fun σ H Q ⟨r, h, sl, R, S, o⟩ => ?_
  refine ⟨r, h, sl, R, S, o.split.mono fun xs r1 h1 H1 g1 R1 o1 us q1 a dx na nd ne => ?_⟩
  exact newV_ok hC (fun xs h e => mFn_n e) R1 (q1.append (hdm r1 H1)) o1 a dx na nd ne
end
end Mr

set_option Elab.async false
set_option linter.all false
set_option maxRecDepth 100000
set_option maxHeartbeats 1000000
namespace Mr
open PySem PySem.Spec PyProof.Rows L2
/-! ### == and != by an own __eq__, mirrored (where the two are equal) -/
theorem FnG.imp {P : Program} {w : World} {K : PySem.W.Frag} {mg : Str → Option Value} {base : Heap} {CX : CXT} {k : Nat} {f : Addr} {fd : FuncData} {ps : List Str} {sp sp' : Sp} (F : FnG P w K mg base CX k f fd ps sp) (h : ∀ vs H Q E, sp' vs H Q E → sp vs H Q E) : FnG P w K mg base CX k f fd ps sp' :=
  ⟨fun ys H Q E z => F.ln ys H Q E (h _ _ _ _ z), fun A out s H ar zs ys Q E r g e b v z => F.go A out s H ar zs ys Q E r g e b v (h _ _ _ _ z)⟩
def obEq (f : List Val → M Val) (x y : Val) : Bool := match f [x, y] [] with
  | .ok (.bl true) _ => true
  | _ => false
/-- two instances of c that f tells to be equal -/
def isObs (c : Str) (f : List Val → M Val) (x y : Val) : Bool := match x, y with
  | .ob a _ _, .ob b _ _ => decide (a = c) && (decide (b = c) && obEq f x y)
  | _, _ => false
def eqI (c : Str) (f : List Val → M Val) (x y : Val) : Bool := (flat x && (flat y && eqF x y)) || isObs c f x y
def eqIs (c : Str) (f : List Val → M Val) : List Val → List Val → Bool
  | [], [] => true
  | x :: xs, y :: ys => eqI c f x y && eqIs c f xs ys
  | _, _ => false
def sameO (c : Str) (f : List Val → M Val) (x y : Val) : Bool := match x, y with
  | .tup xs, .tup ys => eqIs c f xs ys
  | x, y => isObs c f x y
def oNeO (c : Str) (f : List Val → M Val) (x y : Val) (_ : AH) : Option Val := if sameO c f x y then some (.bl false) else none
/-- what the promise of f wants of two addresses -/
def REq (K : KK) (f : List Val → M Val) (a b : Addr) (H : Hp) : Prop := ∃ r x y, Rel K r [] H ∧ RV K r H x (.ref a) ∧ RV K r H y (.ref b) ∧ obEq f x y = true
theorem REq.mon {K : KK} {f : List Val → M Val} {a b : Addr} {H H' : Hp} (e : Ext H H') (z : REq K f a b H) : REq K f a b H' := by
  obtain ⟨r, x, y, R, qx, qy, h⟩ := z
  have g : Vo r H r H' := ⟨fun _ _ e => e, Keep.all e, fun _ e => e, fun a o _ z => e a o z⟩
  exact ⟨r, x, y, R.same e, qx.vo g, qy.vo g, h⟩
theorem spEq_of {K : KK} {f : List Val → M Val} (vs : List V) (H : Hp) (Q : VK) (E : XK) (z : spEqX (REq K f) vs H Q E) : spM K f 2 vs H Q E := by
  obtain ⟨a, b, rfl, ⟨r, x, y, R, qx, qy, h⟩, q⟩ := z
  refine ⟨rfl, r, [], [x, y], R, .cons qx (.cons qy .nil), ?_⟩
  unfold obEq at h
  cases e : f [x, y] [] with
  | ok v h2 =>
    rw [e] at h
    split at h
    · rename_i v' h' e'
      cases e'
      intro r' H' g R' u qu
      cases qu
      refine q H' fun a o e => g.fr a o e fun z => ?_
      have hl := R.len
      have : r.m = [] := List.eq_nil_of_length_eq_zero hl
      rw [this] at z
      cases z
    · cases h
  | exc _ _ _ _ => rw [e] at h; cases h
  | bad => rw [e] at h; cases h
section
variable {X : Cx} {W : WX} {k : Nat} {C fe : Addr} {fd : FuncData} {ps : List Str} {c : Str} {f : List Val → M Val}
theorem obs_d {r : Rg} {h : AH} {H : Hp} {x y : Val} {u w : V} (hC : X.kk.ct c = some C) (R : Rel X.kk r h H) (qx : RV X.kk r H x u) (qy : RV X.kk r H y w) (e : isObs c f x y = true) : DIns C (REq X.kk f) u w H := by
  unfold isObs at e
  split at e
  · rename_i a ns vs b ns' vs'
    obtain ⟨e1, e⟩ := Bool.and_eq_true_iff.mp e
    obtain ⟨e2, e3⟩ := Bool.and_eq_true_iff.mp e
    have e1 := of_decide_eq_true e1
    have e2 := of_decide_eq_true e2
    subst e1
    subst e2
    have qx' := qx.low (by rfl)
    have qy' := qy.low (by rfl)
    cases qx with
    | ob z hc e1 hl t =>
      cases qy with
      | ob z' hc' e1' hl' t' =>
        have c1 := hC.symm.trans hc
        have c2 := hC.symm.trans hc'
        cases c1
        cases c2
        exact ⟨_, _, _, _, _, _, rfl, rfl, e1, e1', r.lo, _, _, R.lo, qx', qy', e3⟩
  · cases e
def DI (X : Cx) (C : Addr) (f : List Val → M Val) : Eqv := fun x y H => DFlat x y H ∨ DIns C (REq X.kk f) x y H
theorem mon_DI : Mon (DI X C f) := Mon.or mon_flat (mon_ins fun a b H H' e z => z.mon e)
theorem eqI_d {r : Rg} {h : AH} {H : Hp} {x y : Val} {u w : V} (hC : X.kk.ct c = some C) (R : Rel X.kk r h H) (qx : RV X.kk r H x u) (qy : RV X.kk r H y w) (e : eqI c f x y = true) : DI X C f u w H := by
  unfold eqI at e
  rcases Bool.or_eq_true_iff.mp e with e | e
  · obtain ⟨e1, e⟩ := Bool.and_eq_true_iff.mp e
    obtain ⟨e2, e3⟩ := Bool.and_eq_true_iff.mp e
    exact .inl ⟨flat_ok qx e1, flat_ok qy e2, by rw [eqF_ok qx qy e1 e2]; exact e3⟩
  · exact .inr (obs_d hC R qx qy e)
theorem eqIs_d {r : Rg} {h : AH} {H : Hp} (hC : X.kk.ct c = some C) (R : Rel X.kk r h H) : ∀ {xs ys : List Val} {us ws : List V}, RVs X.kk r H xs us → RVs X.kk r H ys ws → eqIs c f xs ys = true → Prs (DI X C f) us ws H
  | [], [], _, _, .nil, .nil, _ => Prs.nil
  | x :: xs, y :: ys, _, _, .cons a b, .cons a' b', e => by
    obtain ⟨e1, e2⟩ := Bool.and_eq_true_iff.mp (show (eqI c f x y && eqIs c f xs ys) = true from e)
    exact Prs.cons (eqI_d hC R a a' e1) (eqIs_d hC R b b' e2)
  | [], _ :: _, _, _, _, _, e => by cases e
  | _ :: _, [], _, _, _, _, e => by cases e
def rNeX (X : Cx) (C : Addr) (f : List Val → M Val) : R2 := fun x y H Q => (DIns C (REq X.kk f) x y H ∨ DTup X.K (DI X C f) x y H) ∧ ∀ H', Ext H H' → Q (.bl false) H'
theorem om_neX (hC : X.kk.ct c = some C) : OpM X.kk (rNeX X C f) (oNeO c f) := by
  intro r h H x y u w z Q R qx qy e k
  unfold oNeO at e
  split at e
  · rename_i hs
    cases e
    refine ⟨?_, fun H' ex => k r H' ⟨⟨fun _ _ e => e, Keep.all ex, fun _ e => e, fun a o _ z => ex a o z⟩, fun a o z _ => ex a o z, fun _ z => .inl z, fun _ z => .inl z⟩ (R.same ex) _ (.bl false)⟩
    unfold sameO at hs
    split at hs
    · cases qx with
      | tup s t =>
        cases qy with
        | tup s' t' => exact .inr ⟨_, _, _, _, rfl, rfl, s, s', eqIs_d hC R t t' hs⟩
    · exact .inl (obs_d hC R qx qy hs)
  · cases e
theorem op_neX (F : FnG X.prog X.w X.K X.mg X.base (L2.CX X.prog X.w) k fe fd ps (spM X.kk f 2)) (hb : ∃ ds, Vals [] ds ∧ Binds X.K fd ps ds) (E : EqC X.K C fe) (hr : Room (k + 1) X.A) (hG : X.A.guards = some []) : OpR X (compareOp .NotEq) (rNeX X C f) := by
  obtain ⟨ds, hd, hb⟩ := hb
  cases hd
  have F' := FnG.imp F fun vs H Q E => spEq_of vs H Q E
  intro pins s σ H x y v u Q I rx ry hq
  obtain ⟨d, q⟩ := hq
  have sb : SubG X (k + 1) X.A := ⟨hr, rfl, hG⟩
  show wpAny (model X.prog X.w) X.A (richCompare .NotEq v u) (EP X pins σ Q) X.xe s
  have fin : ∀ (r : Value) (s' : Shared), (r = .bool false ∧ ∃ H', Inv X pins σ H' s' ∧ Ext H H') → EP X pins σ Q r s' := fun r s' ⟨hr', H', I', e⟩ => by
    subst hr'
    exact ⟨.bl false, H', I', rfl, q H' e⟩
  rcases d with d | d
  · exact wpAny_mono (ne_ins F' hb E sb I rx ry d) (fun r s' z => fin r s' z) fun _ _ x => x
  · exact wpAny_mono (ne_tup mon_DI ((eqX_flat.mono (Nat.zero_le k)).or (eqX_ins F' hb E)) sb I rx ry d) (fun r s' z => fin r s' z) fun _ _ x => x
variable {a b : Expr} {ma mb : ME} {pos : Pos}
theorem se_neO (F : FnG X.prog X.w X.K X.mg X.base (L2.CX X.prog X.w) k fe fd ps (spM X.kk f 2)) (hb : ∃ ds, Vals [] ds ∧ Binds X.K fd ps ds) (E : EqC X.K C fe) (hr : Room (k + 1) X.A) (hG : X.A.guards = some []) (hC : X.kk.ct c = some C) (ha : SE X W a ma) (hb' : SE X W b mb) (hm : behindInMarks .NotEq b = false := by rfl) :
    SE X W (.Compare a [.NotEq] [b] pos) (mOp (oNeO c f) ma mb) := se_cmp (op_neX F hb E hr hG) (om_neX hC) ha hb' hm
theorem st_neO (F : FnG X.prog X.w X.K X.mg X.base (L2.CX X.prog X.w) k fe fd ps (spM X.kk f 2)) (hb : ∃ ds, Vals [] ds ∧ Binds X.K fd ps ds) (E : EqC X.K C fe) (hr : Room (k + 1) X.A) (hG : X.A.guards = some []) (hC : X.kk.ct c = some C) (ha : SE X W a ma) (hb' : SE X W b mb) (hm : behindInMarks .NotEq b = false := by rfl) :
    ST X W (.Compare a [.NotEq] [b] pos) (mTest (mOp (oNeO c f) ma mb)) := st_cmp (op_neX F hb E hr hG) (om_neX hC) ha hb' hm
end
end Mr

set_option Elab.async false
set_option linter.all false
set_option maxRecDepth 100000
set_option maxHeartbeats 1000000
/-! ### lists of unlike sizes -/
namespace GQ
open PySem PySem.SeqAt
open AutoSeq1 (wpAny_loadPart')
open MeetsSeq MeetsSeq2 MeetsSeq3 SeqRoads2
section
variable {prog : Program} {w : World} {A : Around} {E : Value → Shared → Prop} {s : Shared}
theorem list_neLen {R : Result → Shared → Prop} (l b : Addr) (items items2 : Array Value) (n n2 : Nat) (dd dd2 : Option Addr) (sl sl2 : Array (Option Value)) (hsz : items.size ≠ items2.size)
    (hl1 : s.heap.get? l = some { cls := .type "list", dict := dd, data := .seq items n, slots := sl }) (hb1 : s.heap.get? b = some { cls := .type "list", dict := dd2, data := .seq items2 n2, slots := sl2 }) (h : R (.ok (.ret (.bool true))) s) :
    wpAny (model prog w) A.in1 (Builtin.«list.__ne__» ⟨[.ref l, .ref b], []⟩) (FinOf prog w A R) (fun e s' => R (.error e) s') s := by
  obtain ⟨hp, g, d, tk, os⟩ := s
  have f3 := AutoSeq1.sub_list_list
  have hne : (items.size != items2.size) = true := by simp [hsz]
  wp_walk using wpAny_loadPart' hl1, wpAny_loadPart' hb1
  exact h
theorem list_eqLen {R : Result → Shared → Prop} (l b : Addr) (items items2 : Array Value) (n n2 : Nat) (dd dd2 : Option Addr) (sl sl2 : Array (Option Value)) (hsz : items.size ≠ items2.size)
    (hl1 : s.heap.get? l = some { cls := .type "list", dict := dd, data := .seq items n, slots := sl }) (hb1 : s.heap.get? b = some { cls := .type "list", dict := dd2, data := .seq items2 n2, slots := sl2 }) (h : R (.ok (.ret (.bool false))) s) :
    wpAny (model prog w) A.in1 (Builtin.«list.__eq__» ⟨[.ref l, .ref b], []⟩) (FinOf prog w A R) (fun e s' => R (.error e) s') s := by
  obtain ⟨hp, g, d, tk, os⟩ := s
  have f3 := AutoSeq1.sub_list_list
  have hne : (items.size != items2.size) = true := by simp [hsz]
  wp_walk using wpAny_loadPart' hl1, wpAny_loadPart' hb1
  exact h
theorem rc_listNe {l b : Addr} {items items2 : Array Value} {Q : Value → Shared → Prop} (hl : s.heap.IsList l items) (hb : s.heap.IsList b items2) (hsz : items.size ≠ items2.size) (hu : A.units < cLine) (fin : Q (.bool true) s) :
    wpAny (model prog w) A (richCompare .NotEq (.ref l) (.ref b)) Q E s := by
  obtain ⟨⟨cls, dd, data, sl⟩, ho, hc, n, hd⟩ := id hl
  obtain ⟨⟨cls2, dd2, data2, sl2⟩, ho2, hc2, n2, hd2⟩ := id hb
  simp only at hc hd hc2 hd2
  subst hc hd hc2 hd2
  refine wpAny_richCompare_same_room (op := .NotEq) ⟨_, ho, rfl⟩ ⟨_, ho2, rfl⟩ F.slot_list_ne (call_here F.slot_list_ne ⟨_, ho, rfl⟩ F.entry_list_ne (F.args_list_ne_2 _ _) ?_) hu
  exact list_neLen (R := wants (fun v s' => v ≠ .notImplemented ∧ Q v s') E) l b items items2 n n2 dd dd2 sl sl2 hsz ho ho2 ⟨(fun x => nomatch x), fin⟩
theorem rc_listEq {l b : Addr} {items items2 : Array Value} {Q : Value → Shared → Prop} (hl : s.heap.IsList l items) (hb : s.heap.IsList b items2) (hsz : items.size ≠ items2.size) (hu : A.units < cLine) (fin : Q (.bool false) s) :
    wpAny (model prog w) A (richCompare .Eq (.ref l) (.ref b)) Q E s := by
  obtain ⟨⟨cls, dd, data, sl⟩, ho, hc, n, hd⟩ := id hl
  obtain ⟨⟨cls2, dd2, data2, sl2⟩, ho2, hc2, n2, hd2⟩ := id hb
  simp only at hc hd hc2 hd2
  subst hc hd hc2 hd2
  refine wpAny_richCompare_same_room (op := .Eq) ⟨_, ho, rfl⟩ ⟨_, ho2, rfl⟩ F.slot_list_eq (call_here F.slot_list_eq ⟨_, ho, rfl⟩ F.entry_list_eq (F.args_list_eq_2 _ _) ?_) hu
  exact list_eqLen (R := wants (fun v s' => v ≠ .notImplemented ∧ Q v s') E) l b items items2 n n2 dd dd2 sl sl2 hsz ho ho2 ⟨(fun x => nomatch x), fin⟩
end
end GQ
namespace Mr
open PySem PySem.Spec PyProof.Rows L2
/-! ### x != [], x == [] -/
def rEmp (K : PySem.W.Frag) (ne : Bool) : R2 := fun x y H Q => ∃ a b xs ys, x = .ref a ∧ y = .ref b ∧ SqL K H a xs ∧ SqL K H b ys ∧ xs.length ≠ ys.length ∧ Q (.bl ne) H
theorem op_neEmp {X : Cx} (hu : X.A.units < cLine) : OpR X (compareOp .NotEq) (rEmp X.K true) := by
  intro pins s σ H x y v u Q I rx ry ⟨a, b, xs, ys, ex, ey, ha, hb, hl, q⟩
  subst ex
  subst ey
  cases rx
  cases ry
  obtain ⟨its, r1, p1, _⟩ := I.list ha
  obtain ⟨its2, r2, p2, _⟩ := I.list hb
  exact GQ.rc_listNe p1.isList p2.isList (by rw [List.size_toArray, List.size_toArray, ← r1.length, ← r2.length]; exact hl) hu ⟨.bl true, H, I, rfl, q⟩
theorem op_eqEmp {X : Cx} (hu : X.A.units < cLine) : OpR X (compareOp .Eq) (rEmp X.K false) := by
  intro pins s σ H x y v u Q I rx ry ⟨a, b, xs, ys, ex, ey, ha, hb, hl, q⟩
  subst ex
  subst ey
  cases rx
  cases ry
  obtain ⟨its, r1, p1, _⟩ := I.list ha
  obtain ⟨its2, r2, p2, _⟩ := I.list hb
  exact GQ.rc_listEq p1.isList p2.isList (by rw [List.size_toArray, List.size_toArray, ← r1.length, ← r2.length]; exact hl) hu ⟨.bl false, H, I, rfl, q⟩
theorem OpR.or {X : Cx} {f : Value → Value → Sem Value} {q q' : R2} (h : OpR X f q) (h' : OpR X f q') : OpR X f (fun x y H Q => q x y H Q ∨ q' x y H Q) := by
  intro pins s σ H x y v u Q I rx ry z
  rcases z with z | z
  · exact h pins s σ H x y v u Q I rx ry z
  · exact h' pins s σ H x y v u Q I rx ry z
/-- compared with an empty list -/
def oEmp (ne : Bool) (x y : Val) (h : AH) : Option Val := match lsV h x, lsV h y with
  | some xs, some ys => if ys.isEmpty then some (.bl (if xs.isEmpty then !ne else ne)) else none
  | _, _ => none
theorem om_emp {K : KK} (ne : Bool) {q : R2} (hq : ∀ x y H Q, (∃ a b, x = .ref a ∧ y = .ref b ∧ SqL K H a [] ∧ SqL K H b [] ∧ Q (.bl (!ne)) H) → q x y H Q) : OpM K (fun x y H Q => q x y H Q ∨ rEmp K ne x y H Q) (oEmp ne) := by
  intro r h H x y u w z Q R qx qy e k
  unfold oEmp at e
  split at e
  · rename_i xs ys e1 e2
    split at e
    · rename_i hy
      cases e
      obtain ⟨a, us, rfl, s, t⟩ := R.lst qx e1
      obtain ⟨b, ws, rfl, s', t'⟩ := R.lst qy e2
      have hy0 : ys = [] := List.isEmpty_iff.mp hy
      subst hy0
      cases t'
      cases xs with
      | nil =>
        cases t
        exact .inl (hq _ _ _ _ ⟨a, b, rfl, rfl, s, s', now k R (.bl _)⟩)
      | cons v vs =>
        cases t with
        | cons t1 t2 => exact .inr ⟨a, b, _, _, rfl, rfl, s, s', by simp, now k R (.bl _)⟩
    · cases e
  · cases e
section
variable {X : Cx} {W : WX} {a b : Expr} {ma mb : ME} {pos : Pos} {k : Nat}
theorem shape_nil : SeqAt.shaped (.list []) = true := by decide +kernel
theorem se_neEmp (hr : Room k X.A) (ha : SE X W a ma) (hb : SE X W b mb) (hm : behindInMarks .NotEq b = false := by rfl) : SE X W (.Compare a [.NotEq] [b] pos) (mOp (oEmp true) ma mb) :=
  se_cmp (OpR.or (op_neD (by have := hr.un; omega)) (op_neEmp hr.units0)) (om_emp true fun x y H Q ⟨a, b, e1, e2, s, s', q⟩ => by
    subst e1
    subst e2
    exact ⟨.list [], .list [], .lst s .nil, .lst s' .nil, shape_nil, shape_nil, by simpa [PyData.eqv, PyData.eqvAll] using q⟩) ha hb hm
theorem se_eqEmp (hr : Room k X.A) (ha : SE X W a ma) (hb : SE X W b mb) (hm : behindInMarks .Eq b = false := by rfl) : SE X W (.Compare a [.Eq] [b] pos) (mOp (oEmp false) ma mb) :=
  se_cmp (OpR.or (op_eqD (by have := hr.un; omega)) (op_eqEmp hr.units0)) (om_emp false fun x y H Q ⟨a, b, e1, e2, s, s', q⟩ => by
    subst e1
    subst e2
    exact ⟨.list [], .list [], .lst s .nil, .lst s' .nil, shape_nil, shape_nil, by simpa [PyData.eqv, PyData.eqvAll] using q⟩) ha hb hm
theorem st_neEmp (hr : Room k X.A) (ha : SE X W a ma) (hb : SE X W b mb) (hm : behindInMarks .NotEq b = false := by rfl) : ST X W (.Compare a [.NotEq] [b] pos) (mTest (mOp (oEmp true) ma mb)) :=
  st_cmp (OpR.or (op_neD (by have := hr.un; omega)) (op_neEmp hr.units0)) (om_emp true fun x y H Q ⟨a, b, e1, e2, s, s', q⟩ => by
    subst e1
    subst e2
    exact ⟨.list [], .list [], .lst s .nil, .lst s' .nil, shape_nil, shape_nil, by simpa [PyData.eqv, PyData.eqvAll] using q⟩) ha hb hm
theorem st_eqEmp (hr : Room k X.A) (ha : SE X W a ma) (hb : SE X W b mb) (hm : behindInMarks .Eq b = false := by rfl) : ST X W (.Compare a [.Eq] [b] pos) (mTest (mOp (oEmp false) ma mb)) :=
  st_cmp (OpR.or (op_eqD (by have := hr.un; omega)) (op_eqEmp hr.units0)) (om_emp false fun x y H Q ⟨a, b, e1, e2, s, s', q⟩ => by
    subst e1
    subst e2
    exact ⟨.list [], .list [], .lst s .nil, .lst s' .nil, shape_nil, shape_nil, by simpa [PyData.eqv, PyData.eqvAll] using q⟩) ha hb hm
end
/-! ### tuple(x) -/
def cTup (xs : List Val) (h : AH) : Option Val := match xs with
  | [.tup xs] => some (.tup xs)
  | [x] => (lsV h x).map .tup
  | _ => none
theorem cm_tup {K : KK} : CaM K (fun xs H Q => ∃ p ys, xs = [.ref p] ∧ ((SqL K H p ys ∧ ∀ l, H l = none → Q (.ref l) (upd H l (.tup ys))) ∨ (SqT K H p ys ∧ Q (.ref p) H))) cTup := by
  intro r h H xs us z Q R q e k
  unfold cTup at e
  split at e
  · cases e
    obtain ⟨u, rfl, qx⟩ := q.one
    have qx' := qx
    cases qx with
    | tup s t => exact ⟨_, _, rfl, .inr ⟨s, now k R qx'⟩⟩
  · rename_i x _
    obtain ⟨u, rfl, qx⟩ := q.one
    cases q1 : lsV h x with
    | none => rw [q1] at e; cases e
    | some ys =>
      rw [q1] at e
      cases e
      obtain ⟨a, us, rfl, s, t⟩ := R.lst qx q1
      exact ⟨a, us, rfl, .inl ⟨s, fun l nl => cn_tup R t k nl⟩⟩
  · cases e
section
variable {X : Cx} {W : WX} {a : Expr} {es : List Expr} {mt : MA} {p pos : Pos}
theorem se_ctup (hm : X.mg "tuple" = none) (ha : SA X W (a :: es) mt) (hg : Gl X "tuple" := by rfl)
    (he : starEach (a :: es) X.env = (false, eval a X.env) :: starEach es X.env := by rfl) (hpl : (backTo pos (starEach es X.env)).any (·.1) = false := by rfl) : SE X W (.Call (.Name "tuple" p) (a :: es) [] pos) (mCall cTup mt) :=
  PE.imp (pe_callTy call_tuple_of hg hm (by decide +kernel) ha (by decide) (by decide) he hpl) fun _ _ _ z => mCall_run cm_tup z
end
/-! ### methods, where they stand; facts of classes -/
structure Dm (K : PySem.W.Frag) (x qual : Str) (st : Stmt) (ps : List Str) (f : Addr) (fd : FuncData) : Prop where
  F : FunD K x qual (defArgs st) (defBody st) (defScope st) [] [] f fd
  b0 : ∃ ds, Vals [] ds ∧ Binds K fd ps ds
theorem Dm.mk0 {K : PySem.W.Frag} {x qual : Str} {st : Stmt} {ps : List Str} {f : Addr} {fd : FuncData} (F : FunD K x qual (defArgs st) (defBody st) (defScope st) [] [] f fd)
    (h : ∀ (kV doc pm : Value) (an : Option Addr) (cdv ct : Value) (us : List Value), us.length = ps.length → bindArgs (PySem.W.fnOf x qual (defArgs st) (defBody st) (defScope st) .none kV doc pm an cdv ct) ⟨us, []⟩ = pure (ps.zip us)) : Dm K x qual st ps f fd :=
  ⟨F, [], .nil, F.bindsN h⟩
def mkB (K : PySem.W.Frag) (C f : Addr) : Bool := PySem.W.makesIn K C && (He.eqO (PySem.W.findIn K (.ref C) "__init__") (some (some (.ref f))) && (PySem.W.isFn K (.ref f) && PySem.W.keepIn K (.ref C)))
theorem mkB_ok {K : PySem.W.Frag} {C f : Addr} (h : mkB K C f = true) : L2.Mk K C f := by
  unfold mkB at h
  obtain ⟨h1, h⟩ := He.ba h
  obtain ⟨h2, h⟩ := He.ba h
  obtain ⟨h3, h4⟩ := He.ba h
  exact ⟨h1, He.eqO_ok h2, h3, h4⟩
def eqcB (K : PySem.W.Frag) (C f : Addr) : Bool := He.eqO (PySem.W.findIn K (.ref C) "__eq__") (some (some (.ref f))) && (PySem.W.isFn K (.ref f) && (He.eqO (PySem.W.findIn K (.ref C) "__ne__") (some (some (.builtin "object.__ne__"))) && decide (PySem.W.mroIn K C (.type "object") = some true)))
theorem eqcB_ok {K : PySem.W.Frag} {C f : Addr} (h : eqcB K C f = true) : EqC K C f := by
  unfold eqcB at h
  obtain ⟨h1, h⟩ := He.ba h
  obtain ⟨h2, h⟩ := He.ba h
  obtain ⟨h3, h4⟩ := He.ba h
  exact ⟨He.eqO_ok h1, h2, He.eqO_ok h3, of_decide_eq_true h4⟩
theorem ct_of {mg : Str → Option Value} {c : Str} {a : Addr} (h : mg c = some (.ref a)) : ctOf mg c = some a := by
  unfold ctOf
  rw [h]
theorem tabt_of {K : PySem.W.Frag} {D : Addr} : ∀ (l : List (String × Bool)) (_ : ∀ p ∈ l, PySem.W.kitOne K (.type p.1) (.ref D) = some p.2) (t : String) (b : Bool), l.lookup t = some b → PySem.W.kitOne K (.type t) (.ref D) = some b
  | [], _, t, b, hl => by cases hl
  | (d, v) :: l, h, t, b, hl => by
    rw [List.lookup_cons] at hl
    split at hl
    · rename_i hb
      cases hl
      have e : t = d := eq_of_beq hb
      subst e
      exact h (t, v) List.mem_cons_self
    · exact tabt_of l (fun p hp => h p (List.mem_cons_of_mem _ hp)) t b hl
/-! ### truth -/
def tstV (v : Val) (h : AH) : Option Bool := match v with
  | .bl b => some b
  | .non => some false
  | .int i => some (i != 0)
  | .tup xs => some (!xs.isEmpty)
  | v => (lsV h v).map fun xs => !xs.isEmpty
def mTestV (m : ME) : MT := fun sl => bnd (m sl) fun v => lft (tstV v)
theorem RVs.emp {K : KK} {r : Rg} {H : Hp} {xs : List Val} {us : List V} (q : RVs K r H xs us) : (!xs.isEmpty) = !us.isEmpty := by cases q <;> rfl
theorem st_tru {X : Cx} {W : WX} {e : Expr} {m : ME} (h : SE X W e m) (he : ∀ whole, isTrue e X.env whole = (do let v ← whole; standAt e.pos; holding [v] (truthy v)) := by intro _; rfl) : ST X W e (mTestV m) :=
  PT.imp (pt_truth h he) fun s H Q ⟨r, h, sl, R, S, o1⟩ => by
  refine ⟨r, h, sl, R, S, o1.split.mono fun xv r1 h1 H1 g1 R1 o2 u q1 => ?_⟩
  obtain ⟨b, e, k⟩ := o2.lft
  have kk : Q b H1 := k r1 H1 (Go.refl _ _) R1
  unfold tstV at e
  split at e
  · cases e; cases q1; exact ⟨_, rfl, kk⟩
  · cases e; cases q1; exact ⟨_, rfl, kk⟩
  · cases e; cases q1; exact ⟨_, rfl, kk⟩
  · cases e
    cases q1 with
    | tup s t => exact ⟨_, .inr (.inl ⟨_, s, t.emp⟩), kk⟩
  · cases q2 : lsV h1 xv with
    | none => rw [q2] at e; cases e
    | some xs =>
      rw [q2] at e
      cases e
      obtain ⟨a, us, rfl, s, t⟩ := R1.lst q1 q2
      exact ⟨_, .inl ⟨us, s, t.emp⟩, kk⟩
end Mr

set_option Elab.async false
set_option linter.all false
set_option maxRecDepth 100000
set_option maxHeartbeats 1000000
namespace Mr
open PySem PySem.Spec PyProof.Rows L2
/-! ### sum, min, max of lists of ints; is of bools -/
def intsOf : List Val → Option (List Int)
  | [] => some []
  | .int i :: xs => (intsOf xs).map (i :: ·)
  | _ :: _ => none
section
variable {K : KK} {r : Rg} {h : AH} {H : Hp}
theorem intsOf_ok : ∀ {xs : List Val} {us : List V} {ns : List Int}, RVs K r H xs us → intsOf xs = some ns → us = ns.map V.int
  | [], _, _, q, e => by cases q; cases e; rfl
  | .int i :: xs, _, ns, q, e => by
    cases q with
    | cons a b =>
      cases a
      have e0 : (intsOf xs).map (i :: ·) = some ns := e
      cases e1 : intsOf xs with
      | none => rw [e1] at e0; cases e0
      | some ms =>
        rw [e1] at e0
        cases e0
        rw [intsOf_ok b e1]
        rfl
  | .non :: _, _, _, _, e => by cases e
  | .bl _ :: _, _, _, _, e => by cases e
  | .str _ :: _, _, _, _, e => by cases e
  | .tup _ :: _, _, _, _, e => by cases e
  | .ref _ :: _, _, _, _, e => by cases e
  | .fl _ :: _, _, _, _, e => by cases e
  | .fd _ _ :: _, _, _, _, e => by cases e
  | .ft _ _ :: _, _, _, _, e => by cases e
  | .ob _ _ _ :: _, _, _, _, e => by cases e
  | .ex _ _ _ :: _, _, _, _, e => by cases e
  | .sl _ :: _, _, _, _, e => by cases e
end
def lstInts (h : AH) (v : Val) : Option (List Int) := match lsV h v with
  | some xs => intsOf xs
  | none => none
theorem Rel.ints {K : KK} {r : Rg} {h : AH} {H : Hp} (R : Rel K r h H) {v : Val} {u : V} {ns : List Int} (q : RV K r H v u) (e : lstInts h v = some ns) : ∃ a, u = .ref a ∧ SqL K.K H a (ns.map V.int) := by
  unfold lstInts at e
  cases e1 : lsV h v with
  | none => rw [e1] at e; cases e
  | some xs =>
    rw [e1] at e
    obtain ⟨a, us, rfl, s, t⟩ := R.lst q e1
    have := intsOf_ok t e
    subst this
    exact ⟨a, rfl, s⟩
def cSum (xs : List Val) (h : AH) : Option Val := match xs with
  | [x] => (lstInts h x).map fun ns => .int ns.sum
  | _ => none
def minI : Int → List Int → Int
  | x, [] => x
  | x, y :: ys => minI (if y < x then y else x) ys
def maxI : Int → List Int → Int
  | x, [] => x
  | x, y :: ys => maxI (if y > x then y else x) ys
theorem minI_ok : ∀ (ys : List Int) (x : Int), minI x ys ∈ x :: ys ∧ ∀ y ∈ x :: ys, minI x ys ≤ y
  | [], x => ⟨List.mem_cons_self, fun y hy => by rw [List.mem_singleton.mp hy]; exact Int.le_refl _⟩
  | z :: ys, x => by
    obtain ⟨h1, h2⟩ := minI_ok ys (if z < x then z else x)
    have e := h2 _ List.mem_cons_self
    have e' : (if z < x then z else x) ≤ x ∧ (if z < x then z else x) ≤ z := by split <;> omega
    refine ⟨?_, fun y hy => ?_⟩
    · rw [minI]
      rcases List.mem_cons.mp h1 with e | e
      · rw [e]
        split
        · exact List.mem_cons_of_mem _ List.mem_cons_self
        · exact List.mem_cons_self
      · exact List.mem_cons_of_mem _ (List.mem_cons_of_mem _ e)
    · rw [minI]
      rcases List.mem_cons.mp hy with f | hy
      · subst f; omega
      · rcases List.mem_cons.mp hy with f | hy
        · subst f; omega
        · exact h2 y (List.mem_cons_of_mem _ hy)
theorem maxI_ok : ∀ (ys : List Int) (x : Int), maxI x ys ∈ x :: ys ∧ ∀ y ∈ x :: ys, y ≤ maxI x ys
  | [], x => ⟨List.mem_cons_self, fun y hy => by rw [List.mem_singleton.mp hy]; exact Int.le_refl _⟩
  | z :: ys, x => by
    obtain ⟨h1, h2⟩ := maxI_ok ys (if z > x then z else x)
    have e := h2 _ List.mem_cons_self
    have e' : x ≤ (if z > x then z else x) ∧ z ≤ (if z > x then z else x) := by split <;> omega
    refine ⟨?_, fun y hy => ?_⟩
    · rw [maxI]
      rcases List.mem_cons.mp h1 with e | e
      · rw [e]
        split
        · exact List.mem_cons_of_mem _ List.mem_cons_self
        · exact List.mem_cons_self
      · exact List.mem_cons_of_mem _ (List.mem_cons_of_mem _ e)
    · rw [maxI]
      rcases List.mem_cons.mp hy with f | hy
      · subst f; omega
      · rcases List.mem_cons.mp hy with f | hy
        · subst f; omega
        · exact h2 y (List.mem_cons_of_mem _ hy)
def minO : List Int → Option Val
  | [] => none
  | x :: xs => some (.int (minI x xs))
def maxO : List Int → Option Val
  | [] => none
  | x :: xs => some (.int (maxI x xs))
def cMinL (xs : List Val) (h : AH) : Option Val := match xs with
  | [x] => (lstInts h x).bind minO
  | _ => none
def cMaxL (xs : List Val) (h : AH) : Option Val := match xs with
  | [x] => (lstInts h x).bind maxO
  | _ => none
section
variable {K : KK}
theorem cm_sum : CaM K (rSum K.K) cSum := by
  intro r h H xs us z Q R q e k
  match xs, e with
  | [x], e =>
    obtain ⟨u, rfl, qx⟩ := q.one
    have e0 : (lstInts h x).map (fun ns => Val.int ns.sum) = some z := e
    cases e1 : lstInts h x with
    | none => rw [e1] at e0; cases e0
    | some ns =>
      rw [e1] at e0
      cases e0
      obtain ⟨a, rfl, s⟩ := R.ints qx e1
      exact ⟨a, ns, rfl, s, now k R (.int _)⟩
theorem cm_minL : CaM K (rMin K.K) cMinL := by
  intro r h H xs us z Q R q e k
  match xs, e with
  | [x], e =>
    obtain ⟨u, rfl, qx⟩ := q.one
    have e0 : (lstInts h x).bind minO = some z := e
    cases e1 : lstInts h x with
    | none => rw [e1] at e0; cases e0
    | some ns =>
      rw [e1] at e0
      obtain ⟨a, rfl, s⟩ := R.ints qx e1
      cases ns with
      | nil => cases e0
      | cons n ns =>
        cases e0
        refine ⟨a, n :: ns, rfl, s, by simp, fun m hm hb => ?_⟩
        obtain ⟨h1, h2⟩ := minI_ok ns n
        have : m = minI n ns := Int.le_antisymm (hb _ h1) (h2 m hm)
        rw [this]
        exact now k R (.int _)
theorem cm_maxL : CaM K (rMax K.K) cMaxL := by
  intro r h H xs us z Q R q e k
  match xs, e with
  | [x], e =>
    obtain ⟨u, rfl, qx⟩ := q.one
    have e0 : (lstInts h x).bind maxO = some z := e
    cases e1 : lstInts h x with
    | none => rw [e1] at e0; cases e0
    | some ns =>
      rw [e1] at e0
      obtain ⟨a, rfl, s⟩ := R.ints qx e1
      cases ns with
      | nil => cases e0
      | cons n ns =>
        cases e0
        refine ⟨a, n :: ns, rfl, s, by simp, fun m hm hb => ?_⟩
        obtain ⟨h1, h2⟩ := maxI_ok ns n
        have : m = maxI n ns := Int.le_antisymm (h2 m hm) (hb _ h1)
        rw [this]
        exact now k R (.int _)
end
section
variable {X : Cx} {W : WX} {a b c : Expr} {es : List Expr} {ma mb mc : ME} {mt : MA} {p pos : Pos} {k : Nat}
theorem se_sum (hc : X.calm = true) (hm : X.mg "sum" = none) (ha : SA X W (a :: es) mt) (hg : Gl X "sum" := by rfl)
    (he : starEach (a :: es) X.env = (false, eval a X.env) :: starEach es X.env := by rfl) (hpl : (backTo pos (starEach es X.env)).any (·.1) = false := by rfl) : SE X W (.Call (.Name "sum" p) (a :: es) [] pos) (mCall cSum mt) :=
  se_callB (cr_sum hc) cm_sum (by decide +kernel) hm ha hg (by decide) (by decide) he hpl
theorem se_minL (hc : X.calm = true) (hm : X.mg "min" = none) (ha : SA X W (a :: es) mt) (hg : Gl X "min" := by rfl)
    (he : starEach (a :: es) X.env = (false, eval a X.env) :: starEach es X.env := by rfl) (hpl : (backTo pos (starEach es X.env)).any (·.1) = false := by rfl) : SE X W (.Call (.Name "min" p) (a :: es) [] pos) (mCall cMinL mt) :=
  se_callB (cr_min hc) cm_minL (by decide +kernel) hm ha hg (by decide) (by decide) he hpl
theorem se_maxL (hc : X.calm = true) (hm : X.mg "max" = none) (ha : SA X W (a :: es) mt) (hg : Gl X "max" := by rfl)
    (he : starEach (a :: es) X.env = (false, eval a X.env) :: starEach es X.env := by rfl) (hpl : (backTo pos (starEach es X.env)).any (·.1) = false := by rfl) : SE X W (.Call (.Name "max" p) (a :: es) [] pos) (mCall cMaxL mt) :=
  se_callB (cr_max hc) cm_maxL (by decide +kernel) hm ha hg (by decide) (by decide) he hpl
/-- is True, is False: the left side a bool -/
def oIsB (x y : Val) (_ : AH) : Option Val := match x, y with
  | .bl a, .bl b => some (.bl (decide (a = b)))
  | _, _ => none
def oNotB (x y : Val) (_ : AH) : Option Val := match x, y with
  | .bl a, .bl b => some (.bl (!decide (a = b)))
  | _, _ => none
theorem om_isB {K : KK} : OpM K rIsB oIsB := by
  intro r h H x y u w z Q R qx qy e k
  unfold oIsB at e
  split at e
  · cases e; cases qx; cases qy
    exact ⟨_, _, rfl, rfl, now k R (.bl _)⟩
  · cases e
theorem om_notB {K : KK} : OpM K rNotB oNotB := by
  intro r h H x y u w z Q R qx qy e k
  unfold oNotB at e
  split at e
  · cases e; cases qx; cases qy
    exact ⟨_, _, rfl, rfl, now k R (.bl _)⟩
  · cases e
theorem se_isB (ha : SE X W a ma) (hb : SE X W b mb) (hm : behindInMarks .Is b = false := by rfl) : SE X W (.Compare a [.Is] [b] pos) (mOp oIsB ma mb) := se_cmp op_isBl om_isB ha hb hm
theorem st_isB (ha : SE X W a ma) (hb : SE X W b mb) (hm : behindInMarks .Is b = false := by rfl) : ST X W (.Compare a [.Is] [b] pos) (mTest (mOp oIsB ma mb)) := st_cmp op_isBl om_isB ha hb hm
theorem se_notB (ha : SE X W a ma) (hb : SE X W b mb) (hm : behindInMarks .IsNot b = false := by rfl) : SE X W (.Compare a [.IsNot] [b] pos) (mOp oNotB ma mb) := se_cmp op_notBl om_notB ha hb hm
theorem st_notB (ha : SE X W a ma) (hb : SE X W b mb) (hm : behindInMarks .IsNot b = false := by rfl) : ST X W (.Compare a [.IsNot] [b] pos) (mTest (mOp oNotB ma mb)) := st_cmp op_notBl om_notB ha hb hm
end
end Mr

set_option Elab.async false
set_option linter.all false
set_option maxRecDepth 100000
set_option maxHeartbeats 1000000
namespace Mr
open PySem PySem.Spec PyProof.Rows L2
section
variable {X : Cx} {W : WX} {K : KK} {a b c e o : Expr} {es : List Expr} {ma mb mc me mo : ME} {mt : MA} {p pos : Pos}
/-! ### xs[::-1] -/
def revN (x : Val) (h : AH) : Option NV := (lsV h x).map fun xs => .n xs.reverse
def mRevL (m : ME) : MN := fun sl => bnd (m sl) fun x => lft (revN x)
theorem sn_rev {k : Nat} {p1 p2 p3 : Pos} (ha : SE X W e me) : SN X W (.Subscript e (.Slice none none (some (.UnaryOp .USub (.Constant (.int 1) k p1) p2)) p3) pos) (mRevL me) := PE.imp (pe_revL ha) fun s H Q ⟨r, h, sl, R, S, o1⟩ => by
  refine ⟨r, h, sl, R, S, o1.split.mono fun x r1 h1 H1 g1 R1 o2 u q1 => ?_⟩
  obtain ⟨v, e, k⟩ := o2.lft
  have e0 : (lsV h1 x).map (fun xs => NV.n xs.reverse) = some v := e
  cases e1 : lsV h1 x with
  | none => rw [e1] at e0; cases e0
  | some xs =>
    rw [e1] at e0
    cases e0
    obtain ⟨a, us, rfl, s, t⟩ := R1.lst q1 e1
    exact ⟨a, us, rfl, s, fun p np => NK.newL R1 np t.reverse fun r' H' g' R' => (k r' H' g' R').base g1 R1⟩
/-! ### range with a step -/
def rngC (lo c : Int) (n : Nat) : List Val := (List.range n).map fun k => .int (lo + (k : Nat) * c)
theorem itr_rangeC {r : Rg} {H : Hp} {lo c : Int} {n : Nat} : ItR K r H (Itc lo c n) (rngC lo c n) := by
  intro r1 h1 H1 k g R
  unfold rngC
  rw [List.getElem?_map]
  by_cases hk : k < n
  · have e0 : (List.range n)[k]? = some k := by rw [List.getElem?_range hk]
    rw [e0]
    refine ⟨fun e => (by cases e), fun v e => ?_⟩
    cases e
    refine ⟨hk, fun y H' z => ?_⟩
    obtain ⟨rfl, rfl⟩ := z
    exact ⟨Go.refl _ _, R, .int _⟩
  · have e0 : (List.range n)[k]? = none := List.getElem?_eq_none_iff.mpr (by rw [List.length_range]; omega)
    rw [e0]
    refine ⟨fun _ => (show n ≤ k by omega), fun v e => (by cases e)⟩
def rgcOk (i j c : Int) (n : Nat) : Bool := decide (c ≠ 0) && (decide (c.natAbs < 1073741824) && (Builtin.Range.small i j c && decide (Builtin.Range.rangeSize i j c = n)))
def rng3 (vs : List Val) (_ : AH) : Option (List Val) := match vs with
  | [.int i, .int j, .int c] => if c = -1 then (if rngOk i && rngOk j then some (rngC i (-1) (i - j).toNat) else none)
    else if rgcOk i j c (Builtin.Range.rangeSize i j c).toNat then some (rngC i c (Builtin.Range.rangeSize i j c).toNat) else none
  | _ => none
def mRng3 (t : MA) : MI := fun sl => bnd (t sl) fun vs => lft (rng3 vs)
theorem rgcOk_ok {i j c : Int} {n : Nat} (h : rgcOk i j c n = true) : RgC i j c n := by
  unfold rgcOk at h
  rw [Bool.and_eq_true, Bool.and_eq_true, Bool.and_eq_true] at h
  exact ⟨of_decide_eq_true h.1, of_decide_eq_true h.2.1, h.2.2.1, of_decide_eq_true h.2.2.2⟩
theorem si_rng3 {tg : Expr} {t : MA} (hm : X.mg "range" = none) (ha : SA X W [a, b, c] t) (hg : Gl X "range" := by rfl) (hs : starEach [a, b, c] X.env = (false, eval a X.env) :: starEach [b, c] X.env := by rfl) (hpl : (backTo pos (starEach [b, c] X.env)).any (·.1) = false := by rfl) :
    SI X W tg (.Call (.Name "range" p) [a, b, c] [] pos) (mRng3 t) := PI.imp (pi_range3 hg hm ha hs hpl) fun s H Q ⟨r, h, sl, R, S, o⟩ => by
  refine ⟨r, h, sl, R, S, o.split.mono fun vs r1 h1 H1 g1 R1 o1 us q1 => ?_⟩
  obtain ⟨xs, e, k⟩ := o1.lft
  unfold rng3 at e
  split at e
  · obtain ⟨u, w, z, rfl, q2, q3, q4⟩ := q1.three
    cases q2; cases q3; cases q4
    split at e
    · rename_i hc
      subst hc
      split at e
      · rename_i hj
        cases e
        have hq := Bool.and_eq_true_iff.mp hj
        have h1 := rngOk_ok hq.1
        have h2 := rngOk_ok hq.2
        exact ⟨_, _, _, _, rfl, RgC.neg h1.1 h1.2 h2.1 h2.2, k r1 H1 (Go.refl _ _) R1 _ itr_rangeC⟩
      · cases e
    · split at e
      · rename_i hj
        cases e
        exact ⟨_, _, _, _, rfl, rgcOk_ok hj, k r1 H1 (Go.refl _ _) R1 _ itr_rangeC⟩
      · cases e
  · cases e
/-! ### any, all, abs, count of bools -/
def blsOf : List Val → Option (List Bool)
  | [] => some []
  | .bl i :: xs => (blsOf xs).map (i :: ·)
  | _ :: _ => none
theorem blsOf_ok {r : Rg} {H : Hp} : ∀ {xs : List Val} {us : List V} {ns : List Bool}, RVs K r H xs us → blsOf xs = some ns → us = ns.map V.bl
  | _, _, _, .nil, e => by cases e; rfl
  | _, _, ns, .cons a b, e => by
    cases a with
    | bl i =>
      rename_i xs us
      unfold blsOf at e
      cases q : blsOf xs with
      | none => rw [q] at e; cases e
      | some zs =>
        rw [q] at e
        cases e
        rw [blsOf_ok b q]
        rfl
    | _ => cases e
def lstBls (h : AH) (v : Val) : Option (List Bool) := match lsV h v with
  | some xs => blsOf xs
  | none => none
theorem Rel.bls {r : Rg} {h : AH} {H : Hp} (R : Rel K r h H) {v : Val} {u : V} {ns : List Bool} (q : RV K r H v u) (e : lstBls h v = some ns) : ∃ a, u = .ref a ∧ SqL K.K H a (ns.map V.bl) := by
  unfold lstBls at e
  cases e1 : lsV h v with
  | none => rw [e1] at e; cases e
  | some xs =>
    rw [e1] at e
    obtain ⟨a, us, rfl, s, t⟩ := R.lst q e1
    have := blsOf_ok t e
    subst this
    exact ⟨a, rfl, s⟩
def cAny (xs : List Val) (h : AH) : Option Val := match xs with
  | [x] => (lstBls h x).map fun ns => .bl (ns.any id)
  | _ => none
def cAll (xs : List Val) (h : AH) : Option Val := match xs with
  | [x] => (lstBls h x).map fun ns => .bl (ns.all id)
  | _ => none
theorem cm_any : CaM K (rAny K.K) cAny := by
  intro r h H xs us z Q R q e k
  match xs, e with
  | [x], e =>
    obtain ⟨u, rfl, qx⟩ := q.one
    have e0 : (lstBls h x).map (fun ns => Val.bl (ns.any id)) = some z := e
    cases e1 : lstBls h x with
    | none => rw [e1] at e0; cases e0
    | some ns =>
      rw [e1] at e0
      cases e0
      obtain ⟨a, rfl, s⟩ := R.bls qx e1
      exact ⟨a, ns, rfl, s, now k R (.bl _)⟩
theorem cm_all : CaM K (rAll K.K) cAll := by
  intro r h H xs us z Q R q e k
  match xs, e with
  | [x], e =>
    obtain ⟨u, rfl, qx⟩ := q.one
    have e0 : (lstBls h x).map (fun ns => Val.bl (ns.all id)) = some z := e
    cases e1 : lstBls h x with
    | none => rw [e1] at e0; cases e0
    | some ns =>
      rw [e1] at e0
      cases e0
      obtain ⟨a, rfl, s⟩ := R.bls qx e1
      exact ⟨a, ns, rfl, s, now k R (.bl _)⟩
theorem se_any (hc : X.calm = true) (hm : X.mg "any" = none) (ha : SA X W (a :: es) mt) (hg : Gl X "any" := by rfl)
    (he : starEach (a :: es) X.env = (false, eval a X.env) :: starEach es X.env := by rfl) (hpl : (backTo pos (starEach es X.env)).any (·.1) = false := by rfl) : SE X W (.Call (.Name "any" p) (a :: es) [] pos) (mCall cAny mt) :=
  se_callB (cr_any hc) cm_any (by decide +kernel) hm ha hg (by decide) (by decide) he hpl
theorem se_all (hc : X.calm = true) (hm : X.mg "all" = none) (ha : SA X W (a :: es) mt) (hg : Gl X "all" := by rfl)
    (he : starEach (a :: es) X.env = (false, eval a X.env) :: starEach es X.env := by rfl) (hpl : (backTo pos (starEach es X.env)).any (·.1) = false := by rfl) : SE X W (.Call (.Name "all" p) (a :: es) [] pos) (mCall cAll mt) :=
  se_callB (cr_all hc) cm_all (by decide +kernel) hm ha hg (by decide) (by decide) he hpl
def cAbs (xs : List Val) (_ : AH) : Option Val := match xs with
  | [.int i] => some (.int (if i < 0 then -i else i))
  | _ => none
theorem cm_abs : CaM K (fun xs H Q => ∃ i, xs = [.int i] ∧ Q (.int (if i < 0 then -i else i)) H) cAbs := by
  intro r h H xs us z Q R q e k
  unfold cAbs at e
  split at e
  · cases e
    obtain ⟨u, rfl, qx⟩ := q.one
    cases qx
    exact ⟨_, rfl, now k R (.int _)⟩
  · cases e
theorem se_abs (hm : X.mg "abs" = none) (ha : SA X W (a :: es) mt) (hg : Gl X "abs" := by rfl)
    (he : starEach (a :: es) X.env = (false, eval a X.env) :: starEach es X.env := by rfl) (hpl : (backTo pos (starEach es X.env)).any (·.1) = false := by rfl) : SE X W (.Call (.Name "abs" p) (a :: es) [] pos) (mCall cAbs mt) :=
  se_callB call_abs cm_abs (by decide +kernel) hm ha hg (by decide) (by decide) he hpl
def rCntB (K : PySem.W.Frag) : V → List V → Hp → VK → Prop := fun x xs H Q => ∃ (p : Addr) (ns : List Bool) (k : Bool), x = .ref p ∧ xs = [.bl k] ∧ SqL K H p (ns.map V.bl) ∧ Q (.int (ns.count k : Nat)) H
def eqbk (k : Bool) : Value → Bool
  | .bool b => b == k
  | _ => false
theorem vals_bls : ∀ {bs : List Bool} {its : List Value}, Vals (bs.map V.bl) its → its = bs.map Value.bool
  | [], its, v => by cases v; rfl
  | b :: bs, its, v => by
    rw [List.map_cons] at v
    cases v with
    | cons r rr =>
      have e : _ = Value.bool b := r
      rw [e, vals_bls rr]
      rfl
theorem mt_lcountB : MtR X "list.count" (rCntB X.K) := by
  intro pins s σ H x xs v us Q I rx rxs h
  obtain ⟨p, ns, k, rfl, rfl, hs, q⟩ := h
  cases rx
  obtain ⟨u, rfl, ru⟩ := rxs.one
  cases (show u = Value.bool k from ru)
  obtain ⟨its, rv, ⟨⟨cls, dd, data, sl⟩, n, ho, hc, hdn, hd⟩, hlen⟩ := I.list hs
  simp only at hc hd
  subst hc hd
  have hi := vals_bls rv
  refine call_meets PySem.F.slot_list_count ⟨_, ho, rfl⟩ PySem.F.entry_list_count (PySem.F.args_list_count_2 _ _)
    (SeqAt.list_countAt p its.toArray n dd sl (.bool k) (eqbk k)) ⟨ho, fun y hy => ?_, ?_⟩
  · have hy' : y ∈ its := by simpa using hy
    rw [hi] at hy'
    obtain ⟨b, _, rfl⟩ := List.mem_map.mp hy'
    exact SeqAt.EqAt.bool_bool b k
  · have ec : its.toArray.toList.countP (eqbk k) = ns.count k := by
      show its.countP (eqbk k) = _
      rw [hi, List.countP_map]
      rfl
    refine ⟨.int (ns.count k : Nat), H, I.tok _, ⟨s.toks, ?_⟩, q⟩
    show Value.int ((its.toArray.toList.countP (eqbk k) : Nat) : Int) s.toks = Value.int ((ns.count k : Nat) : Int) s.toks
    rw [ec]
def fCountB (x : Val) (ys : List Val) (h : AH) : Option Val := match ys with
  | [.bl k] => (lstBls h x).map fun ns => .int (ns.count k : Nat)
  | _ => none
theorem mm_countB : MeM K (rCntB K.K) fCountB := by
  intro r h H x xs u us z Q R qx qs e k
  unfold fCountB at e
  split at e
  · rename_i b
    obtain ⟨w, rfl, qw⟩ := qs.one
    cases qw
    cases e1 : lstBls h x with
    | none => rw [e1] at e; cases e
    | some ns =>
      rw [e1] at e
      cases e
      obtain ⟨a, rfl, s⟩ := R.bls qx e1
      exact ⟨a, ns, b, rfl, rfl, s, now k R (.int _)⟩
  · cases e
theorem se_countB {apos cpos : Pos} (ho : SE X W o mo) (ha : SA X W [e] mt)
    (hbase : attributeBase o "count" X.env (eval o X.env) = eval o X.env := by rfl)
    (hfew : ((backTo cpos (starEach [e] X.env)).all (fun x => !x.1) && (backToKw cpos (keywordEach [] X.env)).all (fun x => x.1.isSome)
      && decide ([e].length + ([] : List Keyword).length + (if ([] : List Keyword).isEmpty then 0 else 1) < 30)) = true := by rfl)
    (hline : (apos.endLine == cpos.line) = true := by rfl) (hs : starEach [e] X.env = (false, eval e X.env) :: starEach [] X.env := by rfl) (hplain : (backTo cpos (starEach [] X.env)).any (·.1) = false := by rfl) :
    SE X W (.Call (.Attribute o "count" apos) [e] [] cpos) (mMeth "list" fCountB mo mt) :=
  se_meth PySem.F.plainAttrs_list PySem.F.slot_list_count PySem.F.type_list_count mt_lcountB mm_countB ho ha hbase hfew hline hs hplain
/-! ### what is never reached -/
def mNvE : ME := fun _ => fail
theorem se_nv : SE X W e mNvE := ⟨fun pins s σ H Q I ⟨r, h, sl, R, S, o⟩ => o.elim⟩
def mNvT : MT := fun _ => fail
theorem st_nv : ST X W e mNvT := ⟨fun pins s σ H Q I ⟨r, h, sl, R, S, o⟩ => o.elim⟩
/-! ### isinstance(error, ValueError) -/
theorem se_isCB {y : Str} {T : String} {p2 : Pos} {tab : Str → Option Bool} {m : ME} (hm : X.mg "isinstance" = none) (hmT : X.mg y = none) (hb : bootBuiltins y = some (.type T)) (hk : ∀ c C b, tab c = some b → X.kk.ct c = some C → ExcC X.K C ∧ PySem.W.kitOne X.K (.ref C) (.type T) = some b) (hn : PySem.W.kitOne X.K (.type "NoneType") (.type T) = some false) (he : SE X W e m)
    (hg : Gl X "isinstance" := by rfl) (hgy : Gl X y := by rfl) (hny : y ≠ "__name__" := by decide) (hdy : (y == ("__debug__" : Str)) = false := by decide)
    (hs : starEach [e, .Name y p2] X.env = (false, eval e X.env) :: starEach [.Name y p2] X.env := by rfl) (hs2 : starEach [.Name y p2] X.env = (false, eval (.Name y p2) X.env) :: starEach [] X.env := by rfl) (hpl : (backTo pos (starEach [.Name y p2] X.env)).any (·.1) = false := by rfl) :
    SE X W (.Call (.Name "isinstance" p) [e, .Name y p2] [] pos) (mIsC tab m) := by
  have pc : PA X [e, .Name y p2] (tCons (tE X.kk W m) (tCons (tC (.ty T)) tNil)) := pa_cons he (pa_cons (pe_bltn (v := .ty T) hgy hmT hb rfl hny hdy) pa_nil hs2) hs
  have p1 := pe_callB (p := p) call_isK hg hm (by decide +kernel) pc (by decide) (by decide) hs hpl
  have p3 := pe_callB (p := p) call_isi hg hm (by decide +kernel) pc (by decide) (by decide) hs hpl
  refine ⟨fun pins s σ H Q I z => ?_⟩
  obtain ⟨r, h, sl, R, S, o⟩ := z
  unfold mIsC mUn bnd at o
  cases q0 : m sl h with
  | bad => rw [q0] at o; exact o.elim
  | exc c f v h1 =>
    rw [q0] at o
    exact p3.run pins s σ H Q I ⟨r, h, sl, R, S, by rw [q0]; exact o⟩
  | ok x h1 =>
    rw [q0] at o
    dsimp only at o
    obtain ⟨v, e1, k⟩ := o.lft
    unfold isCV at e1
    split at e1
    · rename_i c fld y
      cases q2 : tab c with
      | none => rw [q2] at e1; cases e1
      | some b =>
        rw [q2] at e1
        cases e1
        refine p1.run pins s σ H Q I ⟨r, h, sl, R, S, ?_⟩
        rw [q0]
        intro r1 H1 g1 R1 u q1
        cases q1 with
        | ex hct kx q =>
          obtain ⟨TT, ko⟩ := hk _ _ _ q2 hct
          exact ⟨_, _, _, _, _, .type T, b, rfl, kx, TT, fun u ru => ru, ko, k r1 H1 g1 R1 _ (.bl b)⟩
    · cases e1
      refine p3.run pins s σ H Q I ⟨r, h, sl, R, S, ?_⟩
      rw [q0]
      intro r1 H1 g1 R1 u q1
      cases q1
      exact ⟨.non, .ty T, .type "NoneType", .type T, false, rfl, .ty T, .base .non, hn, k r1 H1 g1 R1 _ (.bl false)⟩
    · cases e1
end
end Mr

set_option Elab.async false
set_option linter.all false
set_option maxRecDepth 100000
set_option maxHeartbeats 1000000
namespace Mr
open PySem PySem.Spec PyProof.Rows L2
section
variable {X : Cx} {W : WX} {K : KK} {a b c e o : Expr} {es : List Expr} {ma mb mc me mo : ME} {mt : MA} {p pos : Pos}
/-! ### *xs in a display -/
def mStar (m : ME) (t : MA) : MA := fun sl => bnd (m sl) fun x => bnd (lft fun h => seqOf h x) fun xs => bnd (t sl) fun ys => ret (xs ++ ys)
theorem sa_star (ha : SE X W e me) (hr : SA X W es mt) (hs : starEach (.Starred e p :: es) X.env = (true, eval e X.env) :: starEach es X.env := by rfl) : SA X W (.Starred e p :: es) (mStar me mt) := PA.imp (StX.pa_star ha hr hs) fun s H Q ⟨r, h, sl, R, S, o1⟩ => by
  refine ⟨r, h, sl, R, S, o1.split.mono fun x r1 h1 H1 g1 R1 o2 u q1 => ?_⟩
  obtain ⟨xs, e1, k1⟩ := (Out.split o2).lft
  obtain ⟨a, us, rfl, s1, t1⟩ := R1.seq q1 e1
  refine ⟨a, us, rfl, s1.symm, r1, h1, sl, R1, S.go g1, (Out.split (k1 r1 H1 (Go.refl _ _) R1)).mono fun ys r2 h2 H2 g2 R2 o3 ws q2 => ?_⟩
  exact o3.now R2 _ ((t1.go g2).append q2)
/-! ### methods of texts -/
def fS1 (f : Str → Str → Val) (x : Val) (ys : List Val) (_ : AH) : Option Val := match x, ys with
  | .str a, [.str b] => some (f a b)
  | _, _ => none
def fS1z (f : Str → Str → Val) (x : Val) (ys : List Val) (_ : AH) : Option Val := match x, ys with
  | .str a, [.str b] => if sizeOk a.length then some (f a b) else none
  | _, _ => none
theorem mm_S1 {f : Str → Str → Val} {g : Str → Str → V} (hf : ∀ a b (r : Rg) (H : Hp), RV K r H (f a b) (g a b)) : MeM K (fun x xs H Q => ∃ a b, x = .str a ∧ xs = [.str b] ∧ Q (g a b) H) (fS1 f) := by
  intro r h H x xs u us z Q R qx qs e k
  unfold fS1 at e
  split at e
  · cases e
    cases qx
    obtain ⟨w, rfl, qw⟩ := qs.one
    cases qw
    exact ⟨_, _, rfl, rfl, now k R (hf _ _ r H)⟩
  · cases e
theorem mm_S1z {f : Str → Str → Val} {g : Str → Str → V} (hf : ∀ a b (r : Rg) (H : Hp), RV K r H (f a b) (g a b)) : MeM K (fun x xs H Q => ∃ a b, x = .str a ∧ xs = [.str b] ∧ a.length ≤ sizeLine ∧ Q (g a b) H) (fS1z f) := by
  intro r h H x xs u us z Q R qx qs e k
  unfold fS1z at e
  split at e
  · split at e
    · rename_i hs
      cases e
      cases qx
      obtain ⟨w, rfl, qw⟩ := qs.one
      cases qw
      exact ⟨_, _, rfl, rfl, sizeOk_le hs, now k R (hf _ _ r H)⟩
    · cases e
  · cases e
def fLstripC := fS1z fun a b => .str (Txt.lstripChars a b)
def fStarts := fS1 fun a b => .bl (Txt.startswith a b)
def fEnds := fS1 fun a b => .bl (Txt.endswith a b)
def fFind := fS1 fun a b => .int (Txt.find a b)
def fCountS := fS1 fun a b => .int (Txt.count a b)
section
variable {apos cpos : Pos}
theorem se_lstripC (ho : SE X W o mo) (ha : SA X W [e] mt) (hbase : attributeBase o "lstrip" X.env (eval o X.env) = eval o X.env := by rfl)
    (hfew : ((backTo cpos (starEach [e] X.env)).all (fun x => !x.1) && (backToKw cpos (keywordEach [] X.env)).all (fun x => x.1.isSome)
      && decide ([e].length + ([] : List Keyword).length + (if ([] : List Keyword).isEmpty then 0 else 1) < 30)) = true := by rfl)
    (hline : (apos.endLine == cpos.line) = true := by rfl) (hs : starEach [e] X.env = (false, eval e X.env) :: starEach [] X.env := by rfl) (hplain : (backTo cpos (starEach [] X.env)).any (·.1) = false := by rfl) :
    SE X W (.Call (.Attribute o "lstrip" apos) [e] [] cpos) (mMeth "str" fLstripC mo mt) :=
  se_meth PySem.F.plainAttrs_str PySem.F.slot_str_lstrip PySem.F.type_str_lstrip mt_lstripChars (mm_S1z fun _ _ _ _ => .str _) ho ha hbase hfew hline hs hplain
theorem se_starts (ho : SE X W o mo) (ha : SA X W [e] mt) (hbase : attributeBase o "startswith" X.env (eval o X.env) = eval o X.env := by rfl)
    (hfew : ((backTo cpos (starEach [e] X.env)).all (fun x => !x.1) && (backToKw cpos (keywordEach [] X.env)).all (fun x => x.1.isSome)
      && decide ([e].length + ([] : List Keyword).length + (if ([] : List Keyword).isEmpty then 0 else 1) < 30)) = true := by rfl)
    (hline : (apos.endLine == cpos.line) = true := by rfl) (hs : starEach [e] X.env = (false, eval e X.env) :: starEach [] X.env := by rfl) (hplain : (backTo cpos (starEach [] X.env)).any (·.1) = false := by rfl) :
    SE X W (.Call (.Attribute o "startswith" apos) [e] [] cpos) (mMeth "str" fStarts mo mt) :=
  se_meth PySem.F.plainAttrs_str PySem.F.slot_str_startswith PySem.F.type_str_startswith mt_startswith (mm_S1 fun _ _ _ _ => .bl _) ho ha hbase hfew hline hs hplain
theorem se_find (ho : SE X W o mo) (ha : SA X W [e] mt) (hbase : attributeBase o "find" X.env (eval o X.env) = eval o X.env := by rfl)
    (hfew : ((backTo cpos (starEach [e] X.env)).all (fun x => !x.1) && (backToKw cpos (keywordEach [] X.env)).all (fun x => x.1.isSome)
      && decide ([e].length + ([] : List Keyword).length + (if ([] : List Keyword).isEmpty then 0 else 1) < 30)) = true := by rfl)
    (hline : (apos.endLine == cpos.line) = true := by rfl) (hs : starEach [e] X.env = (false, eval e X.env) :: starEach [] X.env := by rfl) (hplain : (backTo cpos (starEach [] X.env)).any (·.1) = false := by rfl) :
    SE X W (.Call (.Attribute o "find" apos) [e] [] cpos) (mMeth "str" fFind mo mt) :=
  se_meth PySem.F.plainAttrs_str PySem.F.slot_str_find PySem.F.type_str_find mt_find (mm_S1 fun _ _ _ _ => .int _) ho ha hbase hfew hline hs hplain
theorem se_countS (ho : SE X W o mo) (ha : SA X W [e] mt) (hbase : attributeBase o "count" X.env (eval o X.env) = eval o X.env := by rfl)
    (hfew : ((backTo cpos (starEach [e] X.env)).all (fun x => !x.1) && (backToKw cpos (keywordEach [] X.env)).all (fun x => x.1.isSome)
      && decide ([e].length + ([] : List Keyword).length + (if ([] : List Keyword).isEmpty then 0 else 1) < 30)) = true := by rfl)
    (hline : (apos.endLine == cpos.line) = true := by rfl) (hs : starEach [e] X.env = (false, eval e X.env) :: starEach [] X.env := by rfl) (hplain : (backTo cpos (starEach [] X.env)).any (·.1) = false := by rfl) :
    SE X W (.Call (.Attribute o "count" apos) [e] [] cpos) (mMeth "str" fCountS mo mt) :=
  se_meth PySem.F.plainAttrs_str PySem.F.slot_str_count PySem.F.type_str_count mt_count (mm_S1 fun _ _ _ _ => .int _) ho ha hbase hfew hline hs hplain
end
/-! ### two fors in a comprehension -/
def lc2V (p : Pat) (t : MT) (mi1 : MI) (p1 : Pat) (t1 : MT) (el : ME) (own1 : List Nat) (sl : Sl) : List Val → List Val → M (List Val)
  | [], acc => ret acc
  | v :: vs, acc => match p.bd v sl with
    | none => fail
    | some sl1 => bnd (nX (t sl1)) fun b => if b = true then bnd (nX (mi1 sl1)) fun xs1 => bnd (lcV p1 t1 el (wipeM sl1 own1) xs1 acc) fun acc' => lc2V p t mi1 p1 t1 el own1 sl vs acc' else lc2V p t mi1 p1 t1 el own1 sl vs acc
def mLc2 (m : MI) (p : Pat) (t : MT) (mi1 : MI) (p1 : Pat) (t1 : MT) (el : ME) (own own1 : List Nat) : MN := fun sl => bnd (m sl) fun xs => bnd (lc2V p t mi1 p1 t1 el own1 (wipeM sl own) xs []) fun ys => ret (.n ys)
theorem mLc2_run {mi mi1 : MI} {p p1 : Pat} {t t1 : MT} {el : ME} {own own1 : List Nat} (hn : ∀ i ∈ p.names, i ∈ own) (hn1 : ∀ i ∈ p1.names, i ∈ own1) {s : L2.St} {H : Hp} {Q : VK} (z : tN K W (mLc2 mi p t mi1 p1 t1 el own own1) s H Q) : tLc2 (tI K W mi) (p.tg K) (tT K W0 t) (tI K W0 mi1) (p1.tg K) (tT K W0 t1) (tE K W0 el) own own1 s H Q := by
  obtain ⟨r, h, sl, R, S, o⟩ := z
  refine ⟨r, h, sl, R, S, o.split.mono fun xs r1 h1 H1 g1 R1 o1 J iT D nD => ?_⟩
  have nz : ¬ r1.fz D := fun z => by obtain ⟨u, e⟩ := R1.fd D z; rw [nD] at e; cases e
  have nm : D ∉ r1.m := fun z => by obtain ⟨u, e⟩ := R1.md D z; rw [nD] at e; cases e
  refine ⟨fun i n H' => n = (xs.drop i).length ∧ ∃ r h acc us, Rel K r h H' ∧ Go r1 H1 r H' ∧ H' D = some (.lst us) ∧ D ∉ r.m ∧ ¬ r.fz D ∧ RVs K r H' acc us ∧
    Out K r1 H1 (bnd (lc2V p t mi1 p1 t1 el own1 (wipeM sl own) (xs.drop i) acc) (fun ys => ret (NV.n ys)) h) (fun z r' h' H' => NK K H Q z r' H') (fun cls d H' => W cls d s H'),
    ⟨_, rfl, r1, h1, [], [], R1.newu nD, go_new nD, upd_same, nm, nz, .nil, o1⟩, ?_⟩
  rintro i n H2 ⟨rfl, r2, h2, acc, us, R2, g2, hD, n1, n2, qa, o2⟩
  obtain ⟨i1, i2⟩ := iT r2 h2 H2 i g2.toVo R2
  -- the unknown list stays
  have stay : ∀ {us : List V} {r r' : Rg} {H H' : Hp}, Go r H r' H' → H D = some (.lst us) → D ∉ r.m → ¬ r.fz D → H' D = some (.lst us) ∧ D ∉ r'.m ∧ ¬ r'.fz D := fun {us r r' H H'} g e a b =>
    ⟨g.fr D _ e a, fun z => (g.nw D z).elim a (fun y => by rw [e] at y; cases y), fun z => (g.fn D z).elim b (fun y => y.elim a (fun y => by rw [e] at y; cases y))⟩
  cases q1 : xs.drop i with
  | nil =>
    rw [q1] at o2
    exact .inl ⟨i1 (drop_nil q1), o2 r2 H2 g2 R2 D us (g1.none R1 nD) hD n1 n2 qa⟩
  | cons v vs =>
    obtain ⟨ev, evs⟩ := drop_cons q1
    rw [q1] at o2
    obtain ⟨j1, j2⟩ := i2 v ev
    refine .inr ⟨j1, fun H' => ∃ r h acc us, Rel K r h H' ∧ Go r1 H1 r H' ∧ H' D = some (.lst us) ∧ D ∉ r.m ∧ ¬ r.fz D ∧ RVs K r H' acc us ∧
      Out K r1 H1 (bnd (lc2V p t mi1 p1 t1 el own1 (wipeM sl own) (xs.drop (i + 1)) acc) (fun ys => ret (NV.n ys)) h) (fun z r' h' H' => NK K H Q z r' H') (fun cls d H' => W cls d s H'), fun H' z => ⟨_, by rw [← evs]; exact Nat.lt_succ_self _, rfl, z⟩, fun x H' y => ?_⟩
    obtain ⟨k2, R3, q2⟩ := j2 x H' y
    unfold lc2V at o2
    cases q3 : p.bd v (wipeM sl own) with
    | none => rw [q3] at o2; exact o2.elim
    | some sl1 =>
      rw [q3] at o2
      dsimp only at o2
      have g3 := g2.trans k2
      obtain ⟨s', S', w', kk⟩ := Pat.run p q2 ((S.go (g1.trans g3)).wipe own) q3
      obtain ⟨hD3, n13, n23⟩ := stay k2 hD n1 n2
      refine kk _ ⟨by rw [w' own hn]; exact wipe_idem s own, r2, h2, sl1, R3, S', ?_⟩
      have o3 : Out K r1 H1 (bnd (nX (t sl1)) (fun b => bnd (if b = true then bnd (nX (mi1 sl1)) (fun xs1 => bnd (lcV p1 t1 el (wipeM sl1 own1) xs1 acc) fun acc' => lc2V p t mi1 p1 t1 el own1 (wipeM sl own) vs acc') else lc2V p t mi1 p1 t1 el own1 (wipeM sl own) vs acc) (fun ys => ret (NV.n ys))) h2) (fun z r' h' H' => NK K H Q z r' H') (fun cls d H' => W cls d s H') := by
        refine cast (congrArg (fun z => Out K r1 H1 z _ _) ?_) o2
        unfold bnd
        cases nX (t sl1) h2 <;> rfl
      refine (Out.keep o3 g3).nX.mono fun b r4 h4 H4 g4 R4 o4 => ?_
      obtain ⟨hD4, n14, n24⟩ := stay g4 hD3 n13 n23
      have qa4 := qa.go (k2.trans g4)
      cases b with
      | false => exact iteF ⟨r4, h4, acc, us, R4, g3.trans g4, hD4, n14, n24, qa4, by rw [← evs]; exact o4⟩
      | true =>
        refine iteT ⟨r4, h4, sl1, R4, S'.go g4, ?_⟩
        rw [if_pos rfl] at o4
        have o5 : Out K r1 H1 (bnd (nX (mi1 sl1)) (fun xs1 => bnd (lcV p1 t1 el (wipeM sl1 own1) xs1 acc) fun acc' => bnd (lc2V p t mi1 p1 t1 el own1 (wipeM sl own) vs acc') (fun ys => ret (NV.n ys))) h4) (fun z r' h' H' => NK K H Q z r' H') (fun cls d H' => W cls d s H') := by
          refine cast (congrArg (fun z => Out K r1 H1 z _ _) ?_) o4
          unfold bnd
          cases nX (mi1 sl1) h4 with
          | ok xs1 h5 =>
            dsimp only
            cases lcV p1 t1 el (wipeM sl1 own1) xs1 acc h5 <;> rfl
          | _ => rfl
        refine (Out.keep o5 (g3.trans g4)).nX.mono fun xs1 r5 h5 H5 g5 R5 o6 J1 iT1 => ?_
        obtain ⟨hD5, n15, n25⟩ := stay g5 hD4 n14 n24
        have g35 := g3.trans (g4.trans g5)
        refine ⟨fun j k H' => k = (xs1.drop j).length ∧ ∃ r h acc us, Rel K r h H' ∧ Go r1 H1 r H' ∧ Vo r5 H5 r H' ∧ H' D = some (.lst us) ∧ D ∉ r.m ∧ ¬ r.fz D ∧ RVs K r H' acc us ∧
          Out K r1 H1 (bnd (lcV p1 t1 el (wipeM sl1 own1) (xs1.drop j) acc) (fun acc' => bnd (lc2V p t mi1 p1 t1 el own1 (wipeM sl own) vs acc') (fun ys => ret (NV.n ys))) h) (fun z r' h' H' => NK K H Q z r' H') (fun cls d H' => W cls d s H'),
          ⟨_, rfl, r5, h5, acc, us, R5, g35, Vo.refl _ _, hD5, n15, n25, qa4.go g5, o6⟩, ?_⟩
        rintro j k H6 ⟨rfl, r6, h6, acc6, us6, R6, g6, v6, hD6, n16, n26, qa6, o7⟩
        obtain ⟨m1, m2⟩ := iT1 r6 h6 H6 j v6 R6
        cases q4 : xs1.drop j with
        | nil =>
          rw [q4] at o7
          exact .inl ⟨m1 (drop_nil q4), r6, h6, acc6, us6, R6, g6, hD6, n16, n26, qa6, by rw [← evs]; exact o7⟩
        | cons v1 vs1 =>
          obtain ⟨ev1, evs1⟩ := drop_cons q4
          rw [q4] at o7
          obtain ⟨y1, y2⟩ := m2 v1 ev1
          refine .inr ⟨y1, fun H' => ∃ r h acc us, Rel K r h H' ∧ Go r1 H1 r H' ∧ Vo r5 H5 r H' ∧ H' D = some (.lst us) ∧ D ∉ r.m ∧ ¬ r.fz D ∧ RVs K r H' acc us ∧
            Out K r1 H1 (bnd (lcV p1 t1 el (wipeM sl1 own1) (xs1.drop (j + 1)) acc) (fun acc' => bnd (lc2V p t mi1 p1 t1 el own1 (wipeM sl own) vs acc') (fun ys => ret (NV.n ys))) h) (fun z r' h' H' => NK K H Q z r' H') (fun cls d H' => W cls d s H'), fun H' z => ⟨_, by rw [← evs1]; exact Nat.lt_succ_self _, rfl, z⟩, fun x1 H7 y => ?_⟩
          obtain ⟨k7, R7, q7⟩ := y2 x1 H7 y
          unfold lcV at o7
          cases q8 : p1.bd v1 (wipeM sl1 own1) with
          | none => rw [q8] at o7; exact o7.elim
          | some sl2 =>
            rw [q8] at o7
            dsimp only at o7
            have g7 := g6.trans k7
            have v7 := v6.trans k7.toVo
            have S5 : RSl K r5 H5 sl1 s' := (S'.go g4).go g5
            have S7 : RSl K r6 H7 sl1 s' := ⟨S5.1, fun i v e => let ⟨u, e1, q⟩ := S5.2 i v e; ⟨u, e1, q.vo v7⟩⟩
            obtain ⟨s2, S2, w2, kk2⟩ := Pat.run p1 q7 (S7.wipe own1) q8
            obtain ⟨hD7, n17, n27⟩ := stay k7 hD6 n16 n26
            refine kk2 _ ⟨by rw [w2 own1 hn1]; exact wipe_idem s' own1, r6, h6, sl2, R7, S2, ?_⟩
            have o8 : Out K r1 H1 (bnd (nX (t1 sl2)) (fun b => bnd (if b = true then bnd (nX (el sl2)) (fun y => (if sizeOk (acc6.length + 1) then lcV p1 t1 el (wipeM sl1 own1) vs1 (acc6 ++ [y]) else fail)) else lcV p1 t1 el (wipeM sl1 own1) vs1 acc6) (fun acc' => bnd (lc2V p t mi1 p1 t1 el own1 (wipeM sl own) vs acc') (fun ys => ret (NV.n ys)))) h6) (fun z r' h' H' => NK K H Q z r' H') (fun cls d H' => W cls d s H') := by
              refine cast (congrArg (fun z => Out K r1 H1 z _ _) ?_) o7
              unfold bnd
              cases nX (t1 sl2) h6 <;> rfl
            refine (Out.keep o8 g7).nX.mono fun b r8 h8 H8 g8 R8 o9 => ?_
            obtain ⟨hD8, n18, n28⟩ := stay g8 hD7 n17 n27
            have qa8 := qa6.go (k7.trans g8)
            cases b with
            | false => exact iteF ⟨r8, h8, acc6, us6, R8, g7.trans g8, v7.trans g8.toVo, hD8, n18, n28, qa8, by rw [← evs1]; exact o9⟩
            | true =>
              refine iteT ⟨r8, h8, sl2, R8, S2.go g8, ?_⟩
              rw [if_pos rfl] at o9
              have o10 : Out K r1 H1 (bnd (nX (el sl2)) (fun y => bnd (if sizeOk (acc6.length + 1) then lcV p1 t1 el (wipeM sl1 own1) vs1 (acc6 ++ [y]) else fail) (fun acc' => bnd (lc2V p t mi1 p1 t1 el own1 (wipeM sl own) vs acc') (fun ys => ret (NV.n ys)))) h8) (fun z r' h' H' => NK K H Q z r' H') (fun cls d H' => W cls d s H') := by
                refine cast (congrArg (fun z => Out K r1 H1 z _ _) ?_) o9
                unfold bnd
                cases nX (el sl2) h8 <;> rfl
              refine (Out.keep o10 (g7.trans g8)).nX.mono fun w r9 h9 H9 g9 R9 o11 u q9 => ?_
              obtain ⟨hD9, n19, n29⟩ := stay g9 hD8 n18 n28
              split at o11
              · rename_i hs
                have vl : Vo r9 H9 r9 (upd H9 D (.lst (us6 ++ [u]))) := vo_loose hD9 n29
                refine ⟨us6, hD9, ?_, r9, h9, acc6 ++ [w], us6 ++ [u], R9.loose hD9 n19 n29, (g7.trans (g8.trans g9)).loose nD nz, (v7.trans (g8.toVo.trans g9.toVo)).trans vl, upd_same, n19, n29, (RVs.vo vl (qa8.go g9)).append (.cons (RV.vo vl q9) .nil), by rw [← evs1]; exact o11⟩
                have := sizeOk_le hs
                rw [qa8.length]
                omega
              · exact o11.elim
theorem sn_lc2 {elt tg iter tg1 iter1 : Expr} {ifs ifs1 : List Expr} {scope : Scope} {own : List (Str × Nat)} {own1 : List Nat} {mi mi1 : MI} {p p1 : Pat} {t t1 : MT} {el : ME} (hc : X.calm = true) (hN : X.N.Nodup) (hi : SI X W tg iter mi) (ok : BlkOk X.N X.env.scope scope own) (hv : ∀ i ∈ own1, i ∈ own.map (·.2))
    (hg : ∀ (s : Shared) (H : Hp) (C : Addr) (cl : List (Str × Addr)) (fp : List Addr), SG (X.blk s H scope (compEnvC scope cl C X.env) fp) tg p) (ht : ∀ (s : Shared) (H : Hp) (C : Addr) (cl : List (Str × Addr)) (fp : List Addr), STs (X.blk s H scope (compEnvC scope cl C X.env) fp) W0 ifs t)
    (hi1 : ∀ (s : Shared) (H : Hp) (C : Addr) (cl : List (Str × Addr)) (fp : List Addr), SI (X.blk s H scope (compEnvC scope cl C X.env) fp) W0 tg1 iter1 mi1)
    (hg1 : ∀ (s : Shared) (H : Hp) (C : Addr) (cl : List (Str × Addr)) (fp : List Addr), SG (X.blk s H scope (compEnvC scope cl C X.env) fp) tg1 p1) (ht1 : ∀ (s : Shared) (H : Hp) (C : Addr) (cl : List (Str × Addr)) (fp : List Addr), STs (X.blk s H scope (compEnvC scope cl C X.env) fp) W0 ifs1 t1)
    (he : ∀ (s : Shared) (H : Hp) (C : Addr) (cl : List (Str × Addr)) (fp : List Addr), SE (X.blk s H scope (compEnvC scope cl C X.env) fp) W0 elt el) (hn : ∀ i ∈ p.names, i ∈ own.map (·.2) := by decide) (hn1 : ∀ i ∈ p1.names, i ∈ own1 := by decide) (hs : ∀ x, foldedSetIterable iter X.env x = pure x := by intro _; rfl) (hs1 : ∀ env x, foldedSetIterable iter1 env x = pure x := by intro _ _; rfl) :
    SN X W (.ListComp elt [⟨tg, iter, ifs, 0⟩, ⟨tg1, iter1, ifs1, 0⟩] scope pos) (mLc2 mi p t mi1 p1 t1 el (own.map (·.2)) own1) :=
  PE.imp (pe_lc2 hc hN hi ok hv hg ht hi1 hg1 ht1 he hs hs1) fun _ _ _ z => mLc2_run hn hn1 z
theorem ss_setLc2 {i : Nat} {y : Str} {py : Pos} {elt tg iter tg1 iter1 : Expr} {ifs ifs1 : List Expr} {scope : Scope} {own : List (Str × Nat)} {own1 : List Nat} {spos : Pos} {mi mi1 : MI} {p p1 : Pat} {t t1 : MT} {el : ME} {f : MN → ME} (hf : ∀ {m : MN} {s : L2.St} {H : Hp} {Q : VK}, tE X.kk W (f m) s H Q → tN X.kk W m s H Q) (hc : X.calm = true) (hN : X.N.Nodup)
    (hsw : swapsWith (.ListComp elt [⟨tg, iter, ifs, 0⟩, ⟨tg1, iter1, ifs1, 0⟩] scope pos) (some (.Name y py)) spos.line X.env = pure true) (hi : SI X W tg iter mi) (ok : BlkOk X.N X.env.scope scope own) (hv : ∀ i ∈ own1, i ∈ own.map (·.2))
    (hg : ∀ (s : Shared) (H : Hp) (C : Addr) (cl : List (Str × Addr)) (fp : List Addr), SG (X.blk s H scope (compEnvC scope cl C X.env) fp) tg p) (ht : ∀ (s : Shared) (H : Hp) (C : Addr) (cl : List (Str × Addr)) (fp : List Addr), STs (X.blk s H scope (compEnvC scope cl C X.env) fp) W0 ifs t)
    (hi1 : ∀ (s : Shared) (H : Hp) (C : Addr) (cl : List (Str × Addr)) (fp : List Addr), SI (X.blk s H scope (compEnvC scope cl C X.env) fp) W0 tg1 iter1 mi1)
    (hg1 : ∀ (s : Shared) (H : Hp) (C : Addr) (cl : List (Str × Addr)) (fp : List Addr), SG (X.blk s H scope (compEnvC scope cl C X.env) fp) tg1 p1) (ht1 : ∀ (s : Shared) (H : Hp) (C : Addr) (cl : List (Str × Addr)) (fp : List Addr), STs (X.blk s H scope (compEnvC scope cl C X.env) fp) W0 ifs1 t1)
    (he : ∀ (s : Shared) (H : Hp) (C : Addr) (cl : List (Str × Addr)) (fp : List Addr), SE (X.blk s H scope (compEnvC scope cl C X.env) fp) W0 elt el) (hy : X.N[i]? = some y := by rfl) (hyl : X.env.scope.names.lookup y = some .local := by rfl) (hn : ∀ i ∈ p.names, i ∈ own.map (·.2) := by decide) (hn1 : ∀ i ∈ p1.names, i ∈ own1 := by decide) (hs : ∀ x, foldedSetIterable iter X.env x = pure x := by intro _; rfl) (hs1 : ∀ env x, foldedSetIterable iter1 env x = pure x := by intro _ _; rfl) :
    SS X W (.Assign [.Name y py] (.ListComp elt [⟨tg, iter, ifs, 0⟩, ⟨tg1, iter1, ifs1, 0⟩] scope pos) spos) (mSet i (f (mLc2 mi p t mi1 p1 t1 el (own.map (·.2)) own1))) :=
  PS.imp (ps_setLc2 hc hN hy hyl hsw hi ok hv hg ht hi1 hg1 ht1 he hs hs1) fun D s H z => mLc2_run hn hn1 (hf (by
    obtain ⟨r, h, sl, R, S, o⟩ := z
    exact ⟨r, h, sl, R, S, (OutS.sB o S).mono fun x r1 h1 H1 g1 R1 o1 u q1 => OutS.now o1 R1 _ ((S.go g1).set q1)⟩))
end
end Mr

set_option Elab.async false
set_option linter.all false
set_option maxRecDepth 100000
set_option maxHeartbeats 1000000
namespace Mr
open PySem PySem.Spec PyProof.Rows L2
/-! ### the mirror run -/
def bdK {α β : Type} (r : Res α) (f : α → M β) : Res β := match r with
  | .ok a h => f a h
  | .exc c g v h => .exc c g v h
  | .bad => .bad
@[simp] theorem bdK_ok {α β : Type} (a : α) (h : AH) (f : α → M β) : bdK (.ok a h) f = f a h := rfl
@[simp] theorem bdK_exc {α β : Type} (c g : Str) (v : Val) (h : AH) (f : α → M β) : bdK (.exc c g v h) f = .exc c g v h := rfl
@[simp] theorem bdK_bad {α β : Type} (f : α → M β) : bdK .bad f = .bad := rfl
@[simp] theorem bnd_app {α β : Type} (m : M α) (f : α → M β) (h : AH) : bnd m f h = bdK (m h) f := rfl
@[simp] theorem ret_app {α : Type} (a : α) (h : AH) : ret a h = .ok a h := rfl
@[simp] theorem fail_app {α : Type} (h : AH) : (fail : M α) h = .bad := rfl
def lfK {α : Type} (o : Option α) (h : AH) : Res α := match o with
  | some a => .ok a h
  | none => .bad
@[simp] theorem lfK_some {α : Type} (a : α) (h : AH) : lfK (some a) h = .ok a h := rfl
@[simp] theorem lfK_none {α : Type} (h : AH) : lfK (none : Option α) h = .bad := rfl
@[simp] theorem lft_app {α : Type} (f : AH → Option α) (h : AH) : lft f h = lfK (f h) h := rfl
def lhK {α : Type} (o : Option (α × AH)) : Res α := match o with
  | some (a, h) => .ok a h
  | none => .bad
@[simp] theorem lhK_some {α : Type} (a : α) (h : AH) : lhK (some (a, h)) = .ok a h := rfl
@[simp] theorem lhK_none {α : Type} : lhK (none : Option (α × AH)) = .bad := rfl
@[simp] theorem lfh_app {α : Type} (f : AH → Option (α × AH)) (h : AH) : lfh f h = lhK (f h) := rfl
def vrK (o : Option (Option Val)) (h : AH) : Res Val := match o with
  | some (some v) => .ok v h
  | _ => .bad
@[simp] theorem vrK_some (v : Val) (h : AH) : vrK (some (some v)) h = .ok v h := rfl
@[simp] theorem mVar_app (i : Nat) (sl : Sl) (h : AH) : mVar i sl h = vrK sl[i]? h := by
  unfold mVar
  cases sl[i]? with
  | none => rfl
  | some o => cases o <;> rfl
@[simp] theorem mC_app (v : Val) (sl : Sl) (h : AH) : mC v sl h = .ok v h := rfl
section
variable (o o' : Val → Val → AH → Option Val) (on : Val → Val → AH → Option NV) (ou : Val → AH → Option Val) (a b c : ME) (n : MN) (t u : MT) (ta : MA) (sl : Sl) (h : AH)
@[simp] theorem mOp_app : mOp o a b sl h = bdK (a sl h) fun x h1 => bdK (b sl h1) fun y h2 => lfK (o x y h2) h2 := rfl
@[simp] theorem mOpN_app : mOpN on a b sl h = bdK (a sl h) fun x h1 => bdK (b sl h1) fun y h2 => lfK (on x y h2) h2 := rfl
@[simp] theorem mUn_app : mUn ou a sl h = bdK (a sl h) fun x h1 => lfK (ou x h1) h1 := rfl
@[simp] theorem mF_app : mF n sl h = bdK (n sl h) fun z h1 => NV.F z h1 := rfl
@[simp] theorem mT_app : mT n sl h = bdK (n sl h) fun z h1 => NV.T z h1 := rfl
@[simp] theorem mTest_app : mTest a sl h = bdK (a sl h) fun v h1 => lfK (tst v) h1 := rfl
@[simp] theorem tst_bl (b : Bool) : tst (.bl b) = some b := rfl
@[simp] theorem mAnd_app : mAnd t u sl h = bdK (t sl h) fun c h1 => if c = true then u sl h1 else .ok false h1 := by
  unfold mAnd; rw [bnd_app]; cases t sl h with
  | ok c h1 => cases c <;> rfl
  | _ => rfl
@[simp] theorem mOr_app : mOr t u sl h = bdK (t sl h) fun c h1 => if c = true then .ok true h1 else u sl h1 := by
  unfold mOr; rw [bnd_app]; cases t sl h with
  | ok c h1 => cases c <;> rfl
  | _ => rfl
@[simp] theorem mNot_app : mNot t sl h = bdK (t sl h) fun c h1 => .ok (!c) h1 := rfl
def blK (v : Val) (f g : AH → Res Val) (h : AH) : Res Val := match v with
  | .bl true => f h
  | .bl false => g h
  | _ => .bad
@[simp] theorem blK_bl (b : Bool) (f g : AH → Res Val) : blK (.bl b) f g h = if b = true then f h else g h := by cases b <;> rfl
@[simp] theorem mAndV_app : mAndV a b sl h = bdK (a sl h) fun v h1 => blK v (b sl) (fun h => .ok (.bl false) h) h1 := by
  unfold mAndV; rw [bnd_app]; cases a sl h with
  | ok v h1 => cases v with
    | bl x => cases x <;> rfl
    | _ => rfl
  | _ => rfl
@[simp] theorem mOrV_app : mOrV a b sl h = bdK (a sl h) fun v h1 => blK v (fun h => .ok (.bl true) h) (b sl) h1 := by
  unfold mOrV; rw [bnd_app]; cases a sl h with
  | ok v h1 => cases v with
    | bl x => cases x <;> rfl
    | _ => rfl
  | _ => rfl
def ntK (v : Val) (h : AH) : Res Val := match v with
  | .bl b => .ok (.bl (!b)) h
  | _ => .bad
@[simp] theorem ntK_bl (b : Bool) : ntK (.bl b) h = .ok (.bl (!b)) h := rfl
@[simp] theorem mNotV_app : mNotV a sl h = bdK (a sl h) ntK := by
  unfold mNotV; rw [bnd_app]; cases a sl h with
  | ok v h1 => cases v <;> rfl
  | _ => rfl
@[simp] theorem mIf_app : mIf t a b sl h = bdK (t sl h) fun c h1 => if c = true then a sl h1 else b sl h1 := by
  unfold mIf; rw [bnd_app]; cases t sl h with
  | ok c h1 => cases c <;> rfl
  | _ => rfl
@[simp] theorem mChain_app : mChain o o' a b c sl h = bdK (a sl h) fun x h1 => bdK (b sl h1) fun y h2 => bdK (lfK (o x y h2) h2) fun z h3 => blK z (fun h => bdK (c sl h) fun w h4 => lfK (o' y w h4) h4) (fun h => .ok (.bl false) h) h3 := by
  unfold mChain
  rw [bnd_app]
  cases a sl h with
  | ok x h1 =>
    rw [bdK_ok, bdK_ok, bnd_app]
    cases b sl h1 with
    | ok y h2 =>
      rw [bdK_ok, bdK_ok, bnd_app, lft_app]
      cases o x y h2 with
      | none => rfl
      | some z =>
        rw [lfK_some, bdK_ok, bdK_ok]
        cases z with
        | bl q => cases q <;> rfl
        | _ => rfl
    | _ => rfl
  | _ => rfl
@[simp] theorem mNil_app : mNil sl h = .ok [] h := rfl
@[simp] theorem mCons_app : mCons a ta sl h = bdK (a sl h) fun x h1 => bdK (ta sl h1) fun xs h2 => .ok (x :: xs) h2 := rfl
@[simp] theorem mTup_app : mTup ta sl h = bdK (ta sl h) fun xs h1 => lfK (if sizeOk xs.length then some (.tup xs) else none) h1 := rfl
@[simp] theorem mLst_app : mLst ta sl h = bdK (ta sl h) fun xs h1 => lfK (if sizeOk xs.length then some (.n xs) else none) h1 := rfl
@[simp] theorem mCall_app (f : List Val → AH → Option Val) : mCall f ta sl h = bdK (ta sl h) fun xs h1 => lfK (f xs h1) h1 := rfl
@[simp] theorem mCallN_app (f : List Val → AH → Option NV) : mCallN f ta sl h = bdK (ta sl h) fun xs h1 => lfK (f xs h1) h1 := rfl
@[simp] theorem mCallP_app (f : List Val → M Val) (dm : List Val) : mCallP f dm ta sl h = bdK (ta sl h) fun xs h1 => pureN f (xs ++ dm) h1 := rfl
@[simp] theorem mCallM_app (p : Nat) (f : List Val → M Val) (dm : List Val) : mCallM p f dm ta sl h = bdK (ta sl h) fun xs h1 => mutN p f (xs ++ dm) h1 := rfl
@[simp] theorem mCallK_app (f : List Val → M Val) (nn nk : Nat) (ord : List Nat) (tk : MA) : mCallK f nn nk ord ta tk sl h = bdK (ta sl h) fun xs h1 => bdK (tk sl h1) fun zs h2 => if xs.length = nn ∧ zs.length = nk then pureN f (arr ord (xs ++ zs)) h2 else .bad := by
  unfold mCallK; rw [bnd_app]; congr 1; funext xs h1; rw [bnd_app]; congr 1; funext zs h2; split <;> rfl
@[simp] theorem mMeth_app (T : String) (f : Val → List Val → AH → Option Val) : mMeth T f a ta sl h = bdK (a sl h) fun x h1 => bdK (lfK (tyC T x h1) h1) fun _ h2 => bdK (ta sl h2) fun xs h3 => lfK (f x xs h3) h3 := rfl
@[simp] theorem mMethN_app (T : String) (f : Val → List Val → AH → Option NV) : mMethN T f a ta sl h = bdK (a sl h) fun x h1 => bdK (lfK (tyC T x h1) h1) fun _ h2 => bdK (ta sl h2) fun xs h3 => lfK (f x xs h3) h3 := rfl
@[simp] theorem mMethH_app (T : String) (f : Val → List Val → AH → Option (Val × AH)) : mMethH T f a ta sl h = bdK (a sl h) fun x h1 => bdK (lfK (tyC T x h1) h1) fun _ h2 => bdK (ta sl h2) fun xs h3 => lhK (f x xs h3) := rfl
@[simp] theorem mNoPart_app : mNoPart sl h = .ok none h := rfl
@[simp] theorem mPart_app : mPart a sl h = bdK (a sl h) fun v h1 => lfK (intOf v) h1 := rfl
@[simp] theorem intOf_int (i : Int) : intOf (.int i) = some (some i) := rfl
@[simp] theorem mSl_app (l m : MO) : mSl a l m sl h = bdK (a sl h) fun x h1 => bdK (l sl h1) fun lo h2 => bdK (m sl h2) fun hi h3 => lfK (oSl x lo hi h3) h3 := rfl
@[simp] theorem mIsi_app (T : String) : mIsi T a sl h = bdK (a sl h) fun x h1 => lfK (isiB T x h1) h1 := rfl
end
/-! statements -/
def sbK {α : Type} (r : Res α) (sl : Sl) (k : α → AH → SR) : SR := match r with
  | .ok a h => k a h
  | .exc c f v h => some (.ex c f v sl, h)
  | .bad => none
@[simp] theorem sbK_ok {α : Type} (a : α) (h : AH) (sl : Sl) (k : α → AH → SR) : sbK (.ok a h) sl k = k a h := rfl
@[simp] theorem sbK_exc {α : Type} (c f : Str) (v : Val) (h : AH) (sl : Sl) (k : α → AH → SR) : sbK (.exc c f v h) sl k = some (.ex c f v sl, h) := rfl
@[simp] theorem sB_app {α : Type} (m : M α) (sl : Sl) (k : α → AH → SR) (h : AH) : sB m sl k h = sbK (m h) sl k := rfl
def sqK (z : SR) (k : MS) : SR := match z with
  | some (.nx s, h) => k s h
  | z => z
@[simp] theorem sqK_nx (s : Sl) (h : AH) (k : MS) : sqK (some (.nx s, h)) k = k s h := rfl
@[simp] theorem sqK_rt (v : Val) (h : AH) (k : MS) : sqK (some (.rt v, h)) k = some (.rt v, h) := rfl
@[simp] theorem sqK_ex (c f : Str) (v : Val) (s : Sl) (h : AH) (k : MS) : sqK (some (.ex c f v s, h)) k = some (.ex c f v s, h) := rfl
@[simp] theorem sqK_bk (s : Sl) (h : AH) (k : MS) : sqK (some (.bk s, h)) k = some (.bk s, h) := rfl
@[simp] theorem sqK_ct (s : Sl) (h : AH) (k : MS) : sqK (some (.ct s, h)) k = some (.ct s, h) := rfl
section
variable (a b : MS) (m : ME) (t : MT) (ta : MA) (sl : Sl) (h : AH)
@[simp] theorem mNext_app : mNext sl h = some (.nx sl, h) := rfl
@[simp] theorem mBreak_app : mBreak sl h = some (.bk sl, h) := rfl
@[simp] theorem mCont_app : mCont sl h = some (.ct sl, h) := rfl
@[simp] theorem mSeq_app : mSeq a b sl h = sqK (a sl h) b := by
  unfold mSeq sqK
  cases a sl h with
  | none => rfl
  | some z => obtain ⟨f, h1⟩ := z; cases f <;> rfl
@[simp] theorem mDrop_app : mDrop m sl h = sbK (m sl h) sl fun _ h1 => some (.nx sl, h1) := rfl
@[simp] theorem mRet_app : mRet m sl h = sbK (m sl h) sl fun v h1 => some (.rt v, h1) := rfl
@[simp] theorem mRetN_app : mRetN sl h = some (.rt .non, h) := rfl
@[simp] theorem mIfS_app : mIfS t a b sl h = sbK (t sl h) sl fun c h1 => if c = true then a sl h1 else b sl h1 := rfl
@[simp] theorem mSet_app (i : Nat) : mSet i m sl h = sbK (m sl h) sl fun v h1 => some (.nx (sl.set i (some v)), h1) := rfl
def pbK (o : Option Sl) (h : AH) : SR := match o with
  | some sl => some (.nx sl, h)
  | none => none
@[simp] theorem pbK_some : pbK (some sl) h = some (.nx sl, h) := rfl
@[simp] theorem mAsg_app (p : Pat) : mAsg p m sl h = sbK (m sl h) sl fun v h1 => pbK (p.bd v sl) h1 := by
  unfold mAsg; rw [sB_app]; congr 1
def p2K (i j : Nat) (sl : Sl) (vs : List Val) (h : AH) : SR := match vs with
  | [v, w] => some (.nx ((sl.set i (some v)).set j (some w)), h)
  | _ => none
@[simp] theorem p2K_two (i j : Nat) (v w : Val) : p2K i j sl [v, w] h = some (.nx ((sl.set i (some v)).set j (some w)), h) := rfl
@[simp] theorem mPar_app (i j : Nat) : mPar i j ta sl h = sbK (ta sl h) sl fun vs h1 => p2K i j sl vs h1 := rfl
def p3K (i j l : Nat) (sl : Sl) (vs : List Val) (h : AH) : SR := match vs with
  | [u, v, w] => some (.nx (((sl.set i (some u)).set j (some v)).set l (some w)), h)
  | _ => none
@[simp] theorem p3K_three (i j l : Nat) (u v w : Val) : p3K i j l sl [u, v, w] h = some (.nx (((sl.set i (some u)).set j (some v)).set l (some w)), h) := rfl
@[simp] theorem mPar3_app (i j l : Nat) : mPar3 i j l ta sl h = sbK (ta sl h) sl fun vs h1 => p3K i j l sl vs h1 := rfl
def stK (o : Option AH) (sl : Sl) : SR := o.map fun h => (.nx sl, h)
@[simp] theorem stK_some : stK (some h) sl = some (.nx sl, h) := rfl
@[simp] theorem mSub_app (mo mi : ME) : mSub mo mi m sl h = sbK (m sl h) sl fun v h1 => sbK (mo sl h1) sl fun o h2 => sbK (mi sl h2) sl fun i h3 => stK (stL o i v h3) sl := rfl
def auK (x : Option (Option Val)) (f : Val → SR) : SR := match x with
  | some (some v) => f v
  | _ => none
@[simp] theorem auK_some (v : Val) (f : Val → SR) : auK (some (some v)) f = f v := rfl
def nsK (o : Option Val) (i : Nat) (sl : Sl) (h : AH) : SR := o.map fun z => (.nx (sl.set i (some z)), h)
@[simp] theorem nsK_some (z : Val) (i : Nat) : nsK (some z) i sl h = some (.nx (sl.set i (some z)), h) := rfl
@[simp] theorem mAug_app (i : Nat) (o : Val → Val → AH → Option Val) : mAug i o m sl h = auK sl[i]? fun x => sbK (m sl h) sl fun y h1 => nsK (o x y h1) i sl h1 := by
  unfold mAug
  cases sl[i]? with
  | none => rfl
  | some x => cases x <;> rfl
@[simp] theorem mRaise_app (c f : Str) : mRaise c f m sl h = sbK (bdK (m sl h) fzV) sl fun v h1 => some (.ex c f v sl, h1) := rfl
/-- a turn of a loop -/
def lpK (z : SR) (k : MS) : SR := match z with
  | some (.nx s, h) => k s h
  | some (.ct s, h) => k s h
  | some (.bk s, h) => some (.nx s, h)
  | z => z
@[simp] theorem lpK_nx (s : Sl) (k : MS) : lpK (some (.nx s, h)) k = k s h := rfl
@[simp] theorem lpK_ct (s : Sl) (k : MS) : lpK (some (.ct s, h)) k = k s h := rfl
@[simp] theorem lpK_bk (s : Sl) (k : MS) : lpK (some (.bk s, h)) k = some (.nx s, h) := rfl
@[simp] theorem lpK_rt (v : Val) (k : MS) : lpK (some (.rt v, h)) k = some (.rt v, h) := rfl
@[simp] theorem lpK_ex (c f : Str) (v : Val) (s : Sl) (k : MS) : lpK (some (.ex c f v s, h)) k = some (.ex c f v s, h) := rfl
theorem while_succ (n : Nat) : whileL t a (n + 1) sl h = sbK (t sl h) sl fun c h1 => if c = true then lpK (a sl h1) (whileL t a n) else some (.nx sl, h1) := by
  show sB (t sl) sl _ h = _
  rw [sB_app]
  congr 1
@[simp] theorem forV_nil (p : Pat) : forV p a [] sl h = some (.nx sl, h) := rfl
theorem forV_cons (p : Pat) (v : Val) (vs : List Val) : forV p a (v :: vs) sl h = (match p.bd v sl with
    | none => none
    | some s1 => lpK (a s1 h) (forV p a vs)) := by
  rw [forV]
  dsimp only
  cases p.bd v sl with
  | none => rfl
  | some s1 =>
    dsimp only
    cases a s1 h with
    | none => rfl
    | some z => obtain ⟨f, h2⟩ := z; cases f <;> rfl
@[simp] theorem mFor_app (mi : MI) (p : Pat) : mFor mi p a sl h = sbK (mi sl h) sl fun xs h1 => forV p a xs sl h1 := rfl
@[simp] theorem Pat.bd_nm (i : Nat) (v : Val) : Pat.bd (.nm i) v sl = some (sl.set i (some v)) := by unfold Pat.bd; rfl
end
theorem bd_tp (ps : List Pat) (xs : List Val) (sl : Sl) (hl : xs.length = ps.length) : Pat.bd (.tp ps) (.tup xs) sl = Pat.bds ps xs sl := by
  unfold Pat.bd
  rw [if_pos hl]
@[simp] theorem bd_tp2 (p q : Pat) (x y : Val) (sl : Sl) : Pat.bd (.tp [p, q]) (.tup [x, y]) sl = (Pat.bd p x sl).bind fun s => Pat.bd q y s := by
  rw [bd_tp _ _ _ rfl, Pat.bds]
  cases Pat.bd p x sl with
  | none => rfl
  | some s =>
    dsimp only [Option.bind]
    rw [Pat.bds]
    cases Pat.bd q y s with
    | none => rfl
    | some s' => dsimp only; rw [Pat.bds]
@[simp] theorem bd_tp3 (p q w : Pat) (x y z : Val) (sl : Sl) : Pat.bd (.tp [p, q, w]) (.tup [x, y, z]) sl = (Pat.bd p x sl).bind fun s => (Pat.bd q y s).bind fun s => Pat.bd w z s := by
  rw [bd_tp _ _ _ rfl, Pat.bds]
  cases Pat.bd p x sl with
  | none => rfl
  | some s =>
    dsimp only [Option.bind]
    rw [Pat.bds]
    cases Pat.bd q y s with
    | none => rfl
    | some s' =>
      dsimp only
      rw [Pat.bds]
      cases Pat.bd w z s' with
      | none => rfl
      | some s'' => dsimp only; rw [Pat.bds]
@[simp] theorem obind_some {α β : Type} (a : α) (f : α → Option β) : (some a).bind f = f a := rfl
/-! defs -/
def finK (z : SR) : Res Val := match z with
  | some (.rt v, h') => .ok v h'
  | some (.nx _, h') => .ok .non h'
  | some (.ex c f v _, h') => .exc c f v h'
  | _ => .bad
@[simp] theorem finK_rt (v : Val) (h : AH) : finK (some (.rt v, h)) = .ok v h := rfl
@[simp] theorem finK_nx (s : Sl) (h : AH) : finK (some (.nx s, h)) = .ok .non h := rfl
@[simp] theorem finK_ex (c f : Str) (v : Val) (s : Sl) (h : AH) : finK (some (.ex c f v s, h)) = .exc c f v h := rfl
theorem mFn_fin {n size : Nat} {b : MS} {xs : List Val} {h : AH} (hl : xs.length = n) : mFn n size b xs h = finK (b (xs.map some ++ List.replicate (size - n) none) h) := by
  unfold mFn finK
  (rw [if_pos hl]) <;> rfl
/-! by value -/
@[simp] theorem plains_nil : plains [] = true := by rw [plains]
@[simp] theorem plains_cons (x : Val) (xs : List Val) : plains (x :: xs) = (plain x && plains xs) := by rw [plains]
@[simp] theorem plain_int (i : Int) : plain (.int i) = true := by simp [plain]
@[simp] theorem plain_str (i : Str) : plain (.str i) = true := by simp [plain]
@[simp] theorem plain_bl (i : Bool) : plain (.bl i) = true := by simp [plain]
@[simp] theorem plain_non : plain .non = true := by simp [plain]
@[simp] theorem plain_fl (xs : List Val) : plain (.fl xs) = true := by simp [plain]
@[simp] theorem plain_sl (xs : List Val) : plain (.sl xs) = true := by simp [plain]
@[simp] theorem plain_fd (ks : List Key) (xs : List Val) : plain (.fd ks xs) = true := by simp [plain]
@[simp] theorem plain_ob (c : Str) (ks : List Str) (xs : List Val) : plain (.ob c ks xs) = true := by simp [plain]
@[simp] theorem plain_ex (c f : Str) (v : Val) : plain (.ex c f v) = true := by simp [plain]
@[simp] theorem plain_tup (xs : List Val) : plain (.tup xs) = plains xs := by rw [plain]
theorem plains_all {xs : List Val} : plains xs = true ↔ ∀ x ∈ xs, plain x = true := by
  induction xs with
  | nil => simp
  | cons x xs ih => simp [ih]
theorem plains_append {xs ys : List Val} (h1 : plains xs = true) (h2 : plains ys = true) : plains (xs ++ ys) = true := plains_all.mpr fun x hx => (List.mem_append.mp hx).elim (plains_all.mp h1 x) (plains_all.mp h2 x)
theorem plains_map {α : Type} (l : List α) (f : α → Val) (hf : ∀ x, plain (f x) = true) : plains (l.map f) = true := plains_all.mpr fun x hx => by
  obtain ⟨y, _, rfl⟩ := List.mem_map.mp hx
  exact hf y
theorem fzL_plain {xs : List Val} (hp : plains xs = true) (h : AH) : fzL xs h = .ok xs h := by
  unfold fzL frzs
  rw [if_pos hp]
theorem frz_plain {v : Val} (hp : plain v = true) (n : Nat) (h : AH) : frz n v h = some (v, h) := by
  cases n with
  | zero => unfold frz; rw [if_pos hp]
  | succ n =>
    unfold frz
    cases v with
    | ref k => simp [plain] at hp
    | tup xs =>
      rw [plain_tup] at hp
      dsimp only
      unfold frzs
      rw [if_pos hp]
      rfl
    | _ => rfl
theorem fzV_plain {v : Val} (hp : plain v = true) (h : AH) : fzV v h = .ok v h := by
  unfold fzV
  rw [frz_plain hp]
@[simp] theorem NVF_v (x : Val) (h : AH) : NV.F (.v x) h = .ok x h := rfl
@[simp] theorem NVT_v (x : Val) (h : AH) : NV.T (.v x) h = .ok x h := rfl
@[simp] theorem NVT_n (xs : List Val) (h : AH) : NV.T (.n xs) h = .ok (.ref h.length) (h ++ [.lst xs]) := rfl
theorem NVF_n {xs : List Val} (hp : plains xs = true) (h : AH) : NV.F (.n xs) h = .ok (.fl xs) h := by
  show bnd (fzL xs) _ h = _
  rw [bnd_app, fzL_plain hp]
  rfl
theorem resN_plain {v : Val} (hp : plain v = true) (h : AH) : resN v h = some (.v v) := by
  have e := frz_plain hp 8 h
  cases v with
  | ref k => simp [plain] at hp
  | _ =>
    unfold resN
    dsimp only
    rw [e]
    rfl
theorem resN_lst {k : Nat} {xs : List Val} {h : AH} (e : h[k]? = some (.lst xs)) (hp : plains xs = true) : resN (.ref k) h = some (.n xs) := by
  unfold resN
  dsimp only
  rw [e]
  dsimp only
  rw [if_pos hp]
theorem pureN_of {f : List Val → M Val} {xs : List Val} {v : Val} {h2 : AH} {z : NV} (hp : plains xs = true) (e : f xs [] = .ok v h2) (r : resN v h2 = some z) (h : AH) : pureN f xs h = .ok z h := by
  unfold pureN
  rw [bnd_app, fzL_plain hp, bdK_ok, e]
  dsimp only
  rw [r]
theorem pure_v {f : List Val → M Val} {xs : List Val} {v : Val} {h2 : AH} (hp : plains xs = true) (e : f xs [] = .ok v h2) (hv : plain v = true) (h : AH) : pureN f xs h = .ok (.v v) h := pureN_of hp e (resN_plain hv h2) h
theorem pure_n {f : List Val → M Val} {xs : List Val} {k : Nat} {h2 : AH} {ys : List Val} (hp : plains xs = true) (e : f xs [] = .ok (.ref k) h2) (hk : h2[k]? = some (.lst ys)) (hv : plains ys = true) (h : AH) : pureN f xs h = .ok (.n ys) h := pureN_of hp e (resN_lst hk hv) h
theorem pure_x {f : List Val → M Val} {xs : List Val} {c g : Str} {v : Val} {h2 : AH} (hp : plains xs = true) (e : f xs [] = .exc c g v h2) (h : AH) : pureN f xs h = .exc c g v h := by
  unfold pureN
  rw [bnd_app, fzL_plain hp, bdK_ok, e]
theorem mut_of {p n : Nat} {f : List Val → M Val} {xs : List Val} {o o' : AO} {v : Val} {h h2 : AH} (hr : refAt xs p = some n) (hp : plains (xs.set p .non) = true) (ho : h[n]? = some o) (hop : o.plain = true) (e : f (xs.set p (.ref 0)) [o] = .ok v h2) (hv : plain v = true) (ho' : h2[0]? = some o') (hop' : o'.plain = true) :
    mutN p f xs h = .ok (.v v) (h.set n o') := by
  unfold mutN
  rw [hr]
  dsimp only
  rw [bnd_app, fzL_plain hp, bdK_ok, ho]
  dsimp only
  rw [if_pos hop, List.set_set, e]
  dsimp only
  unfold mutB
  rw [frz_plain hv]
  dsimp only
  rw [ho']
  dsimp only
  rw [if_pos hop']
/-! ### comprehensions -/
theorem lcV_pure {p : Pat} {t : MT} {el : ME} {sl : Sl} {h : AH} (tb : Val → Bool) (g : Val → Val) : ∀ (xs acc : List Val), acc.length + xs.length ≤ 16777216 →
    (∀ v ∈ xs, ∃ s1, p.bd v sl = some s1 ∧ t s1 h = .ok (tb v) h ∧ (tb v = true → el s1 h = .ok (g v) h)) → lcV p t el sl xs acc h = .ok (acc ++ (xs.filter tb).map g) h
  | [], acc, _, _ => by simp [lcV]
  | v :: vs, acc, hl, hv => by
    obtain ⟨s1, e1, e2, e3⟩ := hv v List.mem_cons_self
    have rest := fun acc hl => lcV_pure tb g vs acc hl fun w hw => hv w (List.mem_cons_of_mem _ hw)
    unfold lcV
    rw [e1]
    dsimp only
    rw [bnd_app, nX, e2]
    dsimp only
    rw [bdK_ok]
    rw [List.length_cons] at hl
    cases q : tb v with
    | false =>
      rw [if_neg (by simp), rest acc (by omega), List.filter_cons_of_neg (by simp [q])]
    | true =>
      rw [if_pos rfl, bnd_app, nX, e3 q]
      dsimp only
      rw [bdK_ok, if_pos (by unfold sizeOk; exact decide_eq_true (by omega)), rest _ (by rw [List.length_append, List.length_singleton]; omega), List.filter_cons_of_pos (by simp [q])]
      simp
theorem mLc_pure {mi : MI} {p : Pat} {t : MT} {el : ME} {own : List Nat} {sl : Sl} {h h1 : AH} {xs : List Val} (tb : Val → Bool) (g : Val → Val) (e : mi sl h = .ok xs h1) (hl : xs.length ≤ 16777216)
    (hv : ∀ v ∈ xs, ∃ s1, p.bd v (wipeM sl own) = some s1 ∧ t s1 h1 = .ok (tb v) h1 ∧ (tb v = true → el s1 h1 = .ok (g v) h1)) : mLc mi p t el own sl h = .ok (.n ((xs.filter tb).map g)) h1 := by
  unfold mLc
  rw [bnd_app, e, bdK_ok, bnd_app, lcV_pure tb g xs [] (by simpa using hl) hv, bdK_ok]
  simp
theorem lcV_on {α : Type} {p : Pat} {t : MT} {el : ME} {sl : Sl} {h : AH} (e : α → Val) (tb : α → Bool) (g : α → Val) : ∀ (l : List α) (acc : List Val), acc.length + l.length ≤ 16777216 →
    (∀ a ∈ l, ∃ s1, p.bd (e a) sl = some s1 ∧ t s1 h = .ok (tb a) h ∧ (tb a = true → el s1 h = .ok (g a) h)) → lcV p t el sl (l.map e) acc h = .ok (acc ++ (l.filter tb).map g) h
  | [], acc, _, _ => by simp [lcV]
  | v :: vs, acc, hl, hv => by
    obtain ⟨s1, e1, e2, e3⟩ := hv v List.mem_cons_self
    have rest := fun acc hl => lcV_on e tb g vs acc hl fun w hw => hv w (List.mem_cons_of_mem _ hw)
    rw [List.map_cons]
    unfold lcV
    rw [e1]
    dsimp only
    rw [bnd_app, nX, e2]
    dsimp only
    rw [bdK_ok]
    rw [List.length_cons] at hl
    cases q : tb v with
    | false =>
      rw [if_neg (by simp), rest acc (by omega), List.filter_cons_of_neg (by simp [q])]
    | true =>
      rw [if_pos rfl, bnd_app, nX, e3 q]
      dsimp only
      rw [bdK_ok, if_pos (by unfold sizeOk; exact decide_eq_true (by omega)), rest _ (by rw [List.length_append, List.length_singleton]; omega), List.filter_cons_of_pos (by simp [q])]
      simp
theorem mLc_on {α : Type} {mi : MI} {p : Pat} {t : MT} {el : ME} {own : List Nat} {sl : Sl} {h h1 : AH} (l : List α) (e : α → Val) (tb : α → Bool) (g : α → Val) (hx : mi sl h = .ok (l.map e) h1) (hl : l.length ≤ 16777216)
    (hv : ∀ a ∈ l, ∃ s1, p.bd (e a) (wipeM sl own) = some s1 ∧ t s1 h1 = .ok (tb a) h1 ∧ (tb a = true → el s1 h1 = .ok (g a) h1)) : mLc mi p t el own sl h = .ok (.n ((l.filter tb).map g)) h1 := by
  unfold mLc
  rw [bnd_app, hx, bdK_ok, bnd_app, lcV_on e tb g l [] (by simpa using hl) hv, bdK_ok]
  simp
theorem mLc_app (mi : MI) (p : Pat) (t : MT) (el : ME) (own : List Nat) (sl : Sl) (h : AH) : mLc mi p t el own sl h = bdK (mi sl h) fun xs h1 => bdK (lcV p t el (wipeM sl own) xs [] h1) fun ys h2 => .ok (.n ys) h2 := rfl
@[simp] theorem lcV_nil (p : Pat) (t : MT) (el : ME) (sl : Sl) (acc : List Val) (h : AH) : lcV p t el sl [] acc h = .ok acc h := rfl
@[simp] theorem mYes_app (sl : Sl) (h : AH) : mYes sl h = .ok true h := rfl
/-! what is walked -/
section
variable (m : ME) (ta : MA) (sl : Sl) (h : AH)
def itK (v : Val) (h : AH) : Res (List Val) := match v with
  | .tup xs => .ok xs h
  | .str x => .ok (strV x) h
  | v => fzI v h
@[simp] theorem mIter_app : mIter m sl h = bdK (m sl h) itK := by
  unfold mIter; rw [bnd_app]; cases m sl h with
  | ok v h1 => cases v <;> rfl
  | _ => rfl
@[simp] theorem itK_tup (xs : List Val) : itK (.tup xs) h = .ok xs h := rfl
@[simp] theorem itK_str (x : Str) : itK (.str x) h = .ok (strV x) h := rfl
@[simp] theorem itK_fl (xs : List Val) : itK (.fl xs) h = .ok xs h := rfl
@[simp] theorem itK_sl (xs : List Val) : itK (.sl xs) h = .ok xs h := rfl
@[simp] theorem mRng1_app : mRng1 ta sl h = bdK (ta sl h) fun vs h1 => lfK (rng1 vs h1) h1 := rfl
@[simp] theorem mRng2_app : mRng2 ta sl h = bdK (ta sl h) fun vs h1 => lfK (rng2 vs h1) h1 := rfl
def enK (vs : List Val) (h : AH) : Res (List Val) := match vs with
  | [v] => bdK (fzI v h) fun xs h => .ok (enumF 0 xs) h
  | _ => .bad
@[simp] theorem mEnum_app : mEnum ta sl h = bdK (ta sl h) enK := by
  unfold mEnum; rw [bnd_app]; cases ta sl h with
  | ok vs h1 => unfold enK; match vs with | [] => rfl | [v] => rfl | _ :: _ :: _ => rfl
  | _ => rfl
@[simp] theorem enK_fl (xs : List Val) : enK [.fl xs] h = .ok (enumF 0 xs) h := rfl
@[simp] theorem enK_sl (xs : List Val) : enK [.sl xs] h = .ok (enumF 0 xs) h := rfl
def zpK (vs : List Val) (h : AH) : Res (List Val) := match vs with
  | [v, w] => bdK (fzI v h) fun xs h => bdK (fzI w h) fun ys h => .ok (zipV xs ys) h
  | _ => .bad
@[simp] theorem mZip_app : mZip ta sl h = bdK (ta sl h) zpK := by
  unfold mZip; rw [bnd_app]; cases ta sl h with
  | ok vs h1 => unfold zpK; match vs with | [] => rfl | [v] => rfl | [v, w] => rfl | _ :: _ :: _ :: _ => rfl
  | _ => rfl
@[simp] theorem zpK_fl (xs ys : List Val) : zpK [.fl xs, .fl ys] h = .ok (zipV xs ys) h := rfl
end
/-! ### calls, handed on by value -/
def pF (f : List Val → M Val) (xs : List Val) (h : AH) : Res Val := bdK (pureN f xs h) fun z h1 => NV.F z h1
def uF (p : Nat) (f : List Val → M Val) (xs : List Val) (h : AH) : Res Val := bdK (mutN p f xs h) fun z h1 => NV.F z h1
@[simp] theorem pF_fold (f : List Val → M Val) (xs : List Val) (h : AH) : bdK (pureN f xs h) (fun z h1 => NV.F z h1) = pF f xs h := rfl
@[simp] theorem uF_fold (p : Nat) (f : List Val → M Val) (xs : List Val) (h : AH) : bdK (mutN p f xs h) (fun z h1 => NV.F z h1) = uF p f xs h := rfl
theorem pF_v {f : List Val → M Val} {xs : List Val} {v : Val} {h2 : AH} (hp : plains xs = true) (e : f xs [] = .ok v h2) (hv : plain v = true) (h : AH) : pF f xs h = .ok v h := by
  unfold pF
  rw [pure_v hp e hv]
  rfl
theorem pF_n {f : List Val → M Val} {xs : List Val} {k : Nat} {h2 : AH} {ys : List Val} (hp : plains xs = true) (e : f xs [] = .ok (.ref k) h2) (hk : h2[k]? = some (.lst ys)) (hv : plains ys = true) (h : AH) : pF f xs h = .ok (.fl ys) h := by
  unfold pF
  rw [pure_n hp e hk hv]
  exact NVF_n hv h
theorem pF_x {f : List Val → M Val} {xs : List Val} {c g : Str} {v : Val} {h2 : AH} (hp : plains xs = true) (e : f xs [] = .exc c g v h2) (h : AH) : pF f xs h = .exc c g v h := by
  unfold pF
  rw [pure_x hp e]
  rfl
theorem uF_v {p n : Nat} {f : List Val → M Val} {xs : List Val} {o o' : AO} {v : Val} {h h2 : AH} (hr : refAt xs p = some n) (hp : plains (xs.set p .non) = true) (ho : h[n]? = some o) (hop : o.plain = true) (e : f (xs.set p (.ref 0)) [o] = .ok v h2) (hv : plain v = true) (ho' : h2[0]? = some o') (hop' : o'.plain = true) :
    uF p f xs h = .ok v (h.set n o') := by
  unfold uF
  rw [mut_of hr hp ho hop e hv ho' hop']
  rfl
end Mr

set_option Elab.async false
set_option linter.all false
set_option maxRecDepth 100000
set_option maxHeartbeats 1000000
namespace Mr
open PySem PySem.Spec PyProof.Rows L2
/-! ### operations at values -/
section
variable (i j : Int) (x y : Str) (xs ys : List Val) (h : AH) (v w : Val) (n : Nat) (b c : Bool)
@[simp] theorem oAdd_int : oAdd (.int i) (.int j) h = some (.v (.int (i + j))) := rfl
@[simp] theorem oAdd_ib : oAdd (.int i) (.bl b) h = some (.v (.int (i + b2i b))) := rfl
@[simp] theorem oAdd_str : oAdd (.str x) (.str y) h = if sizeOk (x.length + y.length) then some (.v (.str (x ++ y))) else none := rfl
@[simp] theorem oAdd_fl : oAdd (.fl xs) (.fl ys) h = if sizeOk (xs.length + ys.length) then some (.n (xs ++ ys)) else none := rfl
@[simp] theorem oSub_int : oSub (.int i) (.int j) h = some (.int (i - j)) := rfl
@[simp] theorem oDiv_int : oDiv (.int i) (.int j) h = if divOk j then some (.int (i / j)) else none := rfl
@[simp] theorem oMod_int : oMod (.int i) (.int j) h = if decide (0 < j) then some (.int (i % j)) else none := rfl
@[simp] theorem oPow_int : oPow (.int i) (.int j) h = if powOk i j then some (.int (i ^ j.toNat)) else none := rfl
@[simp] theorem oMul_int : oMul (.int i) (.int j) h = if mulOk i j then some (.v (.int (i * j))) else none := rfl
@[simp] theorem oMul_str : oMul (.str x) (.int j) h = if mulSOk x j then some (.v (.str (Txt.mul x j))) else none := rfl
@[simp] theorem uNeg_int : uNeg (.int i) h = some (.int (-i)) := rfl
@[simp] theorem oEq_int : oEq (.int i) (.int j) h = some (.bl (decide (i = j))) := rfl
@[simp] theorem oNe_int : oNe (.int i) (.int j) h = some (.bl (!decide (i = j))) := rfl
@[simp] theorem oEq_str : oEq (.str x) (.str y) h = some (.bl (decide (x = y))) := rfl
@[simp] theorem oNe_str : oNe (.str x) (.str y) h = some (.bl (!decide (x = y))) := rfl
@[simp] theorem oEq_bl : oEq (.bl b) (.bl c) h = some (.bl (decide (b = c))) := rfl
@[simp] theorem oNe_bl : oNe (.bl b) (.bl c) h = some (.bl (!decide (b = c))) := rfl
@[simp] theorem oEq_nil : oEq (.fl []) (.fl []) h = some (.bl true) := rfl
@[simp] theorem oNe_nil : oNe (.fl []) (.fl []) h = some (.bl false) := rfl
@[simp] theorem oLt_int : oLt (.int i) (.int j) h = some (.bl (decide (i < j))) := rfl
@[simp] theorem oLe_int : oLe (.int i) (.int j) h = some (.bl (decide (i ≤ j))) := rfl
@[simp] theorem oGt_int : oGt (.int i) (.int j) h = some (.bl (decide (j < i))) := rfl
@[simp] theorem oGe_int : oGe (.int i) (.int j) h = some (.bl (decide (j ≤ i))) := rfl
@[simp] theorem oIsN_non : oIsN v .non h = some (.bl (isNon v)) := rfl
@[simp] theorem oNotN_non : oNotN v .non h = some (.bl (!isNon v)) := rfl
@[simp] theorem isNon_non : isNon .non = true := rfl
@[simp] theorem isNon_int : isNon (.int i) = false := rfl
@[simp] theorem isNon_str : isNon (.str x) = false := rfl
@[simp] theorem isNon_fl : isNon (.fl xs) = false := rfl
@[simp] theorem isNon_tup : isNon (.tup xs) = false := rfl
@[simp] theorem oAug_int : oAug (.int i) (.int j) h = some (.int (i + j)) := rfl
@[simp] theorem oAug_str : oAug (.str x) (.str y) h = if sizeOk (x.length + y.length) then some (.str (x ++ y)) else none := rfl
@[simp] theorem cLen_str : cLen [.str x] h = if sizeOk x.length then some (.int (x.length : Int)) else none := by
  unfold cLen lenB; dsimp only; split <;> rfl
@[simp] theorem cLen_fl : cLen [.fl xs] h = some (.int (xs.length : Int)) := rfl
@[simp] theorem cLen_sl : cLen [.sl xs] h = some (.int (xs.length : Int)) := rfl
@[simp] theorem cLen_tup : cLen [.tup xs] h = some (.int (xs.length : Int)) := rfl
@[simp] theorem cInt_int : cInt [.int i] h = some (.int i) := rfl
@[simp] theorem cInt_bl : cInt [.bl b] h = some (.int (if b then 1 else 0)) := rfl
@[simp] theorem cMin2_int : cMin2 [.int i, .int j] h = some (.int (if j < i then j else i)) := rfl
@[simp] theorem cMax2_int : cMax2 [.int i, .int j] h = some (.int (if j > i then j else i)) := rfl
@[simp] theorem oIx_fl : oIx (.fl xs) (.int i) h = L2.atI xs i := rfl
@[simp] theorem oIx_sl : oIx (.sl xs) (.int i) h = L2.atI xs i := rfl
@[simp] theorem oIx_tup : oIx (.tup xs) (.int i) h = L2.atI xs i := rfl
def ix1 (o : Option Nat) (b : Bool) : Option Val := match o with
  | some c => if b then some (.str ⟨#[c]⟩) else none
  | none => none
@[simp] theorem oIx_str : oIx (.str x) (.int i) h = ix1 (L2.atI x.cps.toList i) (sizeOk x.length) := rfl
@[simp] theorem ix1_some (c : Nat) : ix1 (some c) true = some (.str ⟨#[c]⟩) := rfl
@[simp] theorem tyC_str : tyC "str" (.str x) h = some () := rfl
@[simp] theorem tyC_fl : tyC "list" (.fl xs) h = some () := rfl
@[simp] theorem oSl_str (lo hi : Option Int) : oSl (.str x) lo hi h = if sizeOk x.length then some (.v (.str (cutS x lo hi))) else none := rfl
@[simp] theorem oSl_fl (lo hi : Option Int) : oSl (.fl xs) lo hi h = some (.n (cutL xs lo hi)) := rfl
@[simp] theorem oSl_sl (lo hi : Option Int) : oSl (.sl xs) lo hi h = some (.n (cutL xs lo hi)) := rfl
@[simp] theorem rng1_int : rng1 [.int i] h = if rngOk i then some (rngV 0 i.toNat) else none := rfl
@[simp] theorem rng2_int : rng2 [.int i, .int j] h = if rngOk i && rngOk j then some (rngV i (j - i).toNat) else none := rfl
@[simp] theorem isi_str_str : isiB "str" (.str x) h = some (.bl true) := rfl
@[simp] theorem isi_int_int : isiB "int" (.int i) h = some (.bl true) := rfl
@[simp] theorem isi_bool_int : isiB "bool" (.int i) h = some (.bl false) := rfl
@[simp] theorem isi_list_fl : isiB "list" (.fl xs) h = some (.bl true) := rfl
@[simp] theorem isi_tuple_tup : isiB "tuple" (.tup xs) h = some (.bl true) := rfl
@[simp] theorem cList_fl : cList [.fl xs] h = some (.n xs) := rfl
/-! the own heap -/
@[simp] theorem mut_0 : mutAt (.lst xs :: h) 0 = some xs := rfl
@[simp] theorem mut_s (o : AO) : mutAt (o :: h) (n + 1) = mutAt h n := rfl
@[simp] theorem lst_0 : lstAt (.lst xs :: h) 0 = some xs := rfl
@[simp] theorem lst_s (o : AO) : lstAt (o :: h) (n + 1) = lstAt h n := rfl
@[simp] theorem tyC_ref0 : tyC "list" (.ref 0) (.lst xs :: h) = some () := rfl
@[simp] theorem tyC_ref1 (o : AO) : tyC "list" (.ref 1) (o :: .lst xs :: h) = some () := rfl
@[simp] theorem tyC_ref2 (o p : AO) : tyC "list" (.ref 2) (o :: p :: .lst xs :: h) = some () := rfl
def apK (o : Option (List Val)) (n : Nat) (y : Val) (h : AH) : Option (Val × AH) := match o with
  | some xs => if sizeOk (xs.length + 1) then some (.non, h.set n (.lst (xs ++ [y]))) else none
  | none => none
@[simp] theorem fAppend_ref : fAppend (.ref n) [v] h = apK (mutAt h n) n v h := rfl
@[simp] theorem apK_some : apK (some xs) n v h = if sizeOk (xs.length + 1) then some (.non, h.set n (.lst (xs ++ [v]))) else none := rfl
def ixK (o : Option (List Val)) (i : Int) : Option Val := match o with
  | some xs => L2.atI xs i
  | none => none
@[simp] theorem oIx_ref : oIx (.ref n) (.int i) h = ixK (lstAt h n) i := rfl
@[simp] theorem ixK_some : ixK (some xs) i = L2.atI xs i := rfl
def snK (o : Option (List Val)) (n : Nat) (z : Int) (v : Val) (h : AH) : Option AH := match o with
  | some xs => (match ixN xs.length z with
    | some j => some (h.set n (.lst (xs.set j v)))
    | none => none)
  | none => none
@[simp] theorem stL_ref : stL (.ref n) (.int i) v h = snK (mutAt h n) n i v h := rfl
theorem snK_some {k : Nat} (e : ixN xs.length i = some k) : snK (some xs) n i v h = some (h.set n (.lst (xs.set k v))) := by
  unfold snK
  dsimp only
  rw [e]
@[simp] theorem cLen_ref : cLen [.ref n] h = (lstAt h n).map fun xs => .int (xs.length : Int) := by
  unfold cLen lenB seqOf
  dsimp only
  cases lstAt h n <;> rfl
@[simp] theorem omap_some {α β : Type} (a : α) (f : α → β) : (some a).map f = some (f a) := rfl
def adK (o p : Option (List Val)) : Option NV := match o, p with
  | some xs, some ys => if sizeOk (xs.length + ys.length) then some (.n (xs ++ ys)) else none
  | _, _ => none
@[simp] theorem oAdd_rf : oAdd (.ref n) (.fl ys) h = adK (lstAt h n) (some ys) := rfl
@[simp] theorem adK_some : adK (some xs) (some ys) = if sizeOk (xs.length + ys.length) then some (.n (xs ++ ys)) else none := rfl
@[simp] theorem AOp_lst : AO.plain (.lst xs) = plains xs := rfl
end
end Mr

set_option Elab.async false
set_option linter.all false
set_option maxRecDepth 100000
set_option maxHeartbeats 1000000
namespace Mr
open PySem PySem.Spec PyProof.Rows L2
/-! ### running: what Mk .. Mp have brought -/
section
variable {a b m mo : ME} {sl : Sl} {h : AH} {ta : MA}
@[simp] theorem mTestV_app : mTestV a sl h = bdK (a sl h) fun v h1 => lfK (tstV v h1) h1 := rfl
@[simp] theorem tstV_tup (xs : List Val) : tstV (.tup xs) h = some (!xs.isEmpty) := rfl
@[simp] theorem tstV_bl (b : Bool) : tstV (.bl b) h = some b := rfl
def lr1 (x : Val) : Option NV := match x with
  | .int j => if rngOk j && decide (j ≤ 16777216) then some (.n (rngV 0 j.toNat)) else none
  | _ => none
@[simp] theorem mLRng1_app : mLRng1 a sl h = bdK (a sl h) fun v h1 => lfK (lr1 v) h1 := rfl
theorem lr1_int {j : Int} (h0 : 0 ≤ j) (h1 : j ≤ 16777216) : lr1 (.int j) = some (.n (rngV 0 j.toNat)) := by
  have e : (rngOk j && decide (j ≤ 16777216)) = true := by
    unfold rngOk
    simp only [Bool.and_eq_true, decide_eq_true_eq]
    omega
  show (if (rngOk j && decide (j ≤ 16777216)) = true then some (NV.n (rngV 0 j.toNat)) else none) = _
  rw [if_pos e]
@[simp] theorem uBits_int (i : Int) : uBits (.int i) h = some (.int (Builtin.Int.intBits i : Nat)) := rfl
@[simp] theorem mDict0_app : mDict0 sl h = .ok (.fd [] []) h := rfl
@[simp] theorem mNew_app (c : Str) (f : List Val → M Val) (dm : List Val) : mNew c f dm ta sl h = bdK (ta sl h) fun xs h1 => newV c f (xs ++ dm) h1 := rfl
theorem newV_of {c : Str} {f : List Val → M Val} {xs : List Val} {h2 h3 : AH} {w : Val} (hp : plains xs = true) (e : f (.ref 0 :: xs) [.ob c [] []] = .ok .non h2) (e2 : frz 8 (.ref 0) h2 = some (w, h3)) (h : AH) : newV c f xs h = .ok w h := by
  unfold newV bnd
  rw [fzL_plain hp]
  dsimp only
  rw [e]
  dsimp only
  rw [e2]
@[simp] theorem fldO_ob (f : Str) (ok : Str → Bool) (c : Str) (ns : List Str) (vs : List Val) : fldO f ok (.ob c ns vs) h = if ok c = true then (ns.zip vs).lookup f else none := rfl
@[simp] theorem mSetF_app (f : Str) (ok : Str → Bool) : mSetF f ok mo m sl h = sbK (m sl h) sl fun v h1 => sbK (mo sl h1) sl fun o h2 => stK (stF f ok o v h2) sl := by
  unfold mSetF
  simp only [sB_app]
  rfl
@[simp] theorem cListS_str (x : Str) : cListS [.str x] h = if sizeOk x.length = true then some (.n (sgV x)) else none := rfl
@[simp] theorem cListS_fl (xs : List Val) : cListS [.fl xs] h = some (.n xs) := rfl
@[simp] theorem cTup_fl (xs : List Val) : cTup [.fl xs] h = some (.tup xs) := rfl
@[simp] theorem oEmp_fl (ne : Bool) (xs : List Val) : oEmp ne (.fl xs) (.fl []) h = some (.bl (if xs.isEmpty = true then !ne else ne)) := rfl
theorem intsOf_map : ∀ ns : List Int, intsOf (ns.map Val.int) = some ns
  | [] => rfl
  | n :: ns => by
    show (intsOf (ns.map Val.int)).map (n :: ·) = _
    rw [intsOf_map ns]
    rfl
theorem cSum_ints (ns : List Int) (h : AH) : cSum [.fl (ns.map Val.int)] h = some (.int ns.sum) := by
  show (intsOf (ns.map Val.int)).map (fun ns => Val.int ns.sum) = _
  rw [intsOf_map]
  rfl
theorem cMinL_ints (n : Int) (ns : List Int) (h : AH) : cMinL [.fl ((n :: ns).map Val.int)] h = some (.int (minI n ns)) := by
  show (intsOf ((n :: ns).map Val.int)).bind minO = _
  rw [intsOf_map]
  rfl
theorem cMaxL_ints (n : Int) (ns : List Int) (h : AH) : cMaxL [.fl ((n :: ns).map Val.int)] h = some (.int (maxI n ns)) := by
  show (intsOf ((n :: ns).map Val.int)).bind maxO = _
  rw [intsOf_map]
  rfl
@[simp] theorem oIsB_bl (a b : Bool) (h : AH) : oIsB (.bl a) (.bl b) h = some (.bl (decide (a = b))) := rfl
@[simp] theorem oNotB_bl (a b : Bool) (h : AH) : oNotB (.bl a) (.bl b) h = some (.bl (!decide (a = b))) := rfl
end
end Mr

set_option Elab.async false
set_option linter.all false
set_option maxRecDepth 100000
set_option maxHeartbeats 1000000
namespace Mr
open PySem PySem.Spec PyProof.Rows L2
/-! ### how long a shown text is -/
theorem textFrom_le : ∀ (ts : List Str) (k : Nat) (acc : Str), (textFrom k acc ts).length ≤ acc.length + piled ts
  | [], k, acc => by show acc.length ≤ _; omega
  | t :: r, k, acc => by
    have e : (acc ++ (if k > 0 then ", " else "" : String) ++ t).length = acc.length + (if k > 0 then 2 else 0) + t.length := by
      rw [strLen_append, strLen_append]
      split <;> rfl
    have h := textFrom_le r (k + 1) (acc ++ (if k > 0 then ", " else "" : String) ++ t)
    rw [e] at h
    rw [piled_cons]
    show (textFrom (k + 1) _ r).length ≤ _
    have e2 : (if k > 0 then 2 else 0 : Nat) ≤ 2 := by split <;> omega
    omega
theorem listText_le (ts : List Str) : (listText ts).length ≤ piled ts + 2 := by
  unfold listText
  rw [strLen_append]
  have h := textFrom_le ts 0 "["
  have e1 : ((("[" : String) : Str)).length = 1 := rfl
  have e2 : ((("]" : String) : Str)).length = 1 := rfl
  omega
theorem tupleText_le (ts : List Str) : (tupleText ts).length ≤ piled ts + 3 := by
  unfold tupleText
  rw [strLen_append, strLen_append]
  have e1 : ((("(" : String) : Str)).length = 1 := rfl
  have e3 : (((if ts.length == 1 then ",)" else ")" : String) : Str)).length ≤ 2 := by split <;> decide
  have e4 : (Str.join ", " ts).length ≤ piled ts := by
    cases ts with
    | nil => exact Nat.zero_le _
    | cons t r => have := join_length_add (t :: r) (by simp); omega
  omega
/-- a value that can be shown and compared: depth at most k, shown in at most b signs -/
def Sh (k b : Nat) (v : Val) : Prop := ∀ (h : AH) (n : Nat), k ≤ n → ∃ d : PyData, dat h n v = some d ∧ datR h n v = some d ∧ d.showable = true ∧ d.depth ≤ k ∧ d.shown.length ≤ b
theorem Sh.mono {k b k' b' : Nat} {v : Val} (s : Sh k b v) (h1 : k ≤ k') (h2 : b ≤ b') : Sh k' b' v := fun h n hn => by
  obtain ⟨d, e1, e2, e3, e4, e5⟩ := s h n (by omega)
  exact ⟨d, e1, e2, e3, by omega, by omega⟩
theorem Sh.non : Sh 1 4 .non := fun h n hn => by
  obtain ⟨m, rfl⟩ : ∃ m, n = m + 1 := ⟨n - 1, by omega⟩
  exact ⟨.none, rfl, rfl, by simp [PyData.showable], by simp [PyData.depth], by simp only [PyData.shown]; decide⟩
theorem Sh.bl (b : Bool) : Sh 1 5 (.bl b) := fun h n hn => by
  obtain ⟨m, rfl⟩ : ∃ m, n = m + 1 := ⟨n - 1, by omega⟩
  exact ⟨.bool b, rfl, rfl, by simp [PyData.showable], by simp [PyData.depth], by simp only [PyData.shown]; cases b <;> decide⟩
theorem Sh.int {i : Int} (hi : i.natAbs.log2 < 1920) : Sh 1 1921 (.int i) := fun h n hn => by
  obtain ⟨m, rfl⟩ : ∃ m, n = m + 1 := ⟨n - 1, by omega⟩
  exact ⟨.int i, rfl, rfl, by simp only [PyData.showable]; exact decide_eq_true hi, by simp [PyData.depth], by simp only [PyData.shown]; exact int_text_len_1921 hi⟩
theorem log_small {i : Int} (h0 : -1000000000000 ≤ i) (h1 : i ≤ 1000000000000) : i.natAbs.log2 < 1920 := by
  by_cases hz : i.natAbs = 0
  · rw [hz]; decide
  · have h2 : i.natAbs < 2 ^ 64 := by omega
    have h3 := (Nat.log2_lt hz).mpr h2
    omega
theorem Sh.small {i : Int} (h0 : -1000000000000 ≤ i) (h1 : i ≤ 1000000000000) : Sh 1 1921 (.int i) := Sh.int (log_small h0 h1)
theorem Sh.nat {i : Nat} (h1 : i ≤ 1000000000000) : Sh 1 1921 (.int (i : Int)) := Sh.small (by omega) (by omega)
theorem Sh.str {x : Str} (hx : ∀ c ∈ x.cps.toList, c < 0x110000) : Sh 1 (10 * x.length + 2) (.str x) := fun h n hn => by
  obtain ⟨m, rfl⟩ : ∃ m, n = m + 1 := ⟨n - 1, by omega⟩
  have ok : PyData.strOk x = true := by
    unfold PyData.strOk
    rw [Array.all_eq_true_iff_forall_mem]
    intro c hc
    exact decide_eq_true (hx c (by simpa using hc))
  refine ⟨.str x, ?_, rfl, by simp [PyData.showable], by simp [PyData.depth], ?_⟩
  · show (if PyData.strOk x = true then some (PyData.str x) else none) = _
    rw [if_pos ok]
  · simp only [PyData.shown]
    exact StrLaws.reprText_len x fun c hc => by have := hx c hc; omega
theorem sh_all {k b : Nat} (h : AH) (n : Nat) (hn : k ≤ n) : ∀ xs : List Val, (∀ x ∈ xs, Sh k b x) → ∃ ds : List PyData, datW (dat h n) xs = some ds ∧ datW (datR h n) xs = some ds ∧ PyData.showableAll ds = true ∧ PyData.depthAll ds ≤ k ∧ piled (PyData.shownAll ds) ≤ xs.length * (b + 2)
  | [], _ => ⟨[], rfl, rfl, by simp [PyData.showableAll], by simp [PyData.depthAll], by simp [PyData.shownAll, piled]⟩
  | x :: xs, hs => by
    obtain ⟨d, e1, e2, e3, e4, e5⟩ := hs x List.mem_cons_self h n hn
    obtain ⟨ds, f1, f2, f3, f4, f5⟩ := sh_all h n hn xs fun y hy => hs y (List.mem_cons_of_mem _ hy)
    refine ⟨d :: ds, ?_, ?_, ?_, ?_, ?_⟩
    · unfold datW; rw [e1]; dsimp only; rw [f1]; rfl
    · unfold datW; rw [e2]; dsimp only; rw [f2]; rfl
    · simp only [PyData.showableAll, e3, f3, Bool.and_self]
    · simp only [PyData.depthAll]; omega
    · simp only [PyData.shownAll]
      rw [piled_cons, List.length_cons, Nat.succ_mul]
      omega
theorem Sh.tup {k b : Nat} {xs : List Val} (hs : ∀ x ∈ xs, Sh k b x) : Sh (k + 1) (xs.length * (b + 2) + 3) (.tup xs) := fun h n hn => by
  obtain ⟨m, rfl⟩ : ∃ m, n = m + 1 := ⟨n - 1, by omega⟩
  obtain ⟨ds, f1, f2, f3, f4, f5⟩ := sh_all h m (by omega) xs hs
  refine ⟨.tuple ds, ?_, ?_, by simpa only [PyData.showable] using f3, by simp only [PyData.depth]; omega, ?_⟩
  · show (datW (dat h m) xs).map PyData.tuple = _; rw [f1]; rfl
  · show (datW (datR h m) xs).map PyData.tuple = _; rw [f2]; rfl
  · simp only [PyData.shown]
    have := tupleText_le (PyData.shownAll ds)
    omega
theorem Sh.fl {k b : Nat} {xs : List Val} (hs : ∀ x ∈ xs, Sh k b x) : Sh (k + 1) (xs.length * (b + 2) + 3) (.fl xs) := fun h n hn => by
  obtain ⟨m, rfl⟩ : ∃ m, n = m + 1 := ⟨n - 1, by omega⟩
  obtain ⟨ds, f1, f2, f3, f4, f5⟩ := sh_all h m (by omega) xs hs
  refine ⟨.list ds, ?_, ?_, by simpa only [PyData.showable] using f3, by simp only [PyData.depth]; omega, ?_⟩
  · show (datW (dat h m) xs).map PyData.list = _; rw [f1]; rfl
  · show (datW (datR h m) xs).map PyData.list = _; rw [f2]; rfl
  · simp only [PyData.shown]
    have := listText_le (PyData.shownAll ds)
    omega
theorem Sh.sl {k b : Nat} {xs : List Val} (hs : ∀ x ∈ xs, Sh k b x) : Sh (k + 1) (xs.length * (b + 2) + 3) (.sl xs) := fun h n hn => by
  obtain ⟨m, rfl⟩ : ∃ m, n = m + 1 := ⟨n - 1, by omega⟩
  obtain ⟨ds, f1, f2, f3, f4, f5⟩ := sh_all h m (by omega) xs hs
  refine ⟨.list ds, ?_, ?_, by simpa only [PyData.showable] using f3, by simp only [PyData.depth]; omega, ?_⟩
  · show (datW (dat h m) xs).map PyData.list = _; rw [f1]; rfl
  · show (datW (datR h m) xs).map PyData.list = _; rw [f2]; rfl
  · simp only [PyData.shown]
    have := listText_le (PyData.shownAll ds)
    omega
/-- the text of a value -/
theorem repr_ex {k b : Nat} {v : Val} (s : Sh k b v) (hk : k ≤ 30) (hb : b ≤ 16777216) (h : AH) : ∃ x : Str, cReprD [v] h = some (.str x) := by
  obtain ⟨d, _, e2, e3, e4, e5⟩ := s h 30 hk
  refine ⟨d.shown, ?_⟩
  show (match datR h 30 v with
    | some d => if showOkD d then some (Val.str d.shown) else none
    | none => none) = _
  rw [e2]
  have : showOkD d = true := by
    unfold showOkD
    rw [e3, decide_eq_true (show d.depth ≤ 40 by omega), decide_eq_true (show d.shown.length ≤ 16777216 by omega)]
    rfl
  show (if showOkD d = true then some (Val.str d.shown) else none) = _
  rw [if_pos this]
theorem dat_ex {k b : Nat} {v : Val} (s : Sh k b v) (hk : k ≤ 30) (h : AH) : ∃ d, dat h 30 v = some d := by
  obtain ⟨d, e1, _⟩ := s h 30 hk
  exact ⟨d, e1⟩
theorem oNe_rfl_str (x : Str) (h : AH) : oNe (.str x) (.str x) h = some (.bl false) := by rw [oNe_str, decide_eq_true rfl]; rfl
theorem oEq_rfl_str (x : Str) (h : AH) : oEq (.str x) (.str x) h = some (.bl true) := by rw [oEq_str, decide_eq_true rfl]
theorem oNe_rfl_int (x : Int) (h : AH) : oNe (.int x) (.int x) h = some (.bl false) := by rw [oNe_int, decide_eq_true rfl]; rfl
theorem oEq_rfl_int (x : Int) (h : AH) : oEq (.int x) (.int x) h = some (.bl true) := by rw [oEq_int, decide_eq_true rfl]
/-! ### equal data -/
mutual
theorem eqv_self : ∀ d : PyData, d.hasDict = false → PyData.eqv d d = true
  | .none, _ => by simp [PyData.eqv]
  | .bool b, _ => by simp [PyData.eqv]
  | .int i, _ => by simp [PyData.eqv]
  | .str x, _ => by simp [PyData.eqv]
  | .list xs, h => by
    simp only [PyData.hasDict] at h
    simp only [PyData.eqv, eqvs_self xs h]
  | .tuple xs, h => by
    simp only [PyData.hasDict] at h
    simp only [PyData.eqv, eqvs_self xs h]
  | .dict _, h => by simp [PyData.hasDict] at h
theorem eqvs_self : ∀ ds : List PyData, PyData.hasDictAll ds = false → PyData.eqvAll ds ds = true
  | [], _ => by simp [PyData.eqvAll]
  | d :: ds, h => by
    simp only [PyData.hasDictAll, Bool.or_eq_false_iff] at h
    simp only [PyData.eqvAll, eqv_self d h.1, eqvs_self ds h.2, Bool.and_true]
end
theorem datW_nd {f : Val → Option PyData} (hf : ∀ x d, f x = some d → d.hasDict = false) : ∀ (xs : List Val) (ds : List PyData), datW f xs = some ds → PyData.hasDictAll ds = false
  | [], ds, e => by cases e; simp [PyData.hasDictAll]
  | x :: xs, ds, e => by
    unfold datW at e
    cases q1 : f x with
    | none => rw [q1] at e; cases e
    | some d =>
      rw [q1] at e
      dsimp only at e
      cases q2 : datW f xs with
      | none => rw [q2] at e; cases e
      | some es =>
        rw [q2] at e
        cases e
        simp only [PyData.hasDictAll, hf x d q1, datW_nd hf xs es q2, Bool.or_false]
theorem dat_nd (h : AH) : ∀ (n : Nat) (v : Val) (d : PyData), dat h n v = some d → d.hasDict = false := by
  intro n
  induction n with
  | zero => intro v d e; cases e
  | succ n ih =>
    intro v d e
    have other : ∀ {c : List PyData → PyData} {xs : List Val}, (∀ ds, (c ds).hasDict = PyData.hasDictAll ds) → (datW (dat h n) xs).map c = some d → d.hasDict = false := fun {c xs} hc e => by
      cases q : datW (dat h n) xs with
      | none => rw [q] at e; cases e
      | some ds =>
        rw [q] at e
        cases e
        rw [hc]
        exact datW_nd ih xs ds q
    have ll : ∀ ds, (PyData.list ds).hasDict = PyData.hasDictAll ds := fun ds => by simp [PyData.hasDict]
    have tt : ∀ ds, (PyData.tuple ds).hasDict = PyData.hasDictAll ds := fun ds => by simp [PyData.hasDict]
    unfold dat at e
    split at e
    · cases e; simp [PyData.hasDict]
    · cases e; simp [PyData.hasDict]
    · cases e; simp [PyData.hasDict]
    · split at e
      · cases e; simp [PyData.hasDict]
      · cases e
    · exact other tt e
    · split at e
      · exact other ll e
      · cases e
theorem eqB_self {x : Val} {h : AH} {d : PyData} (e : dat h 30 x = some d) : eqB x x h = some true := by
  unfold eqB
  cases q : eqS x x with
  | some b =>
    have : b = true := by
      cases x <;> simp [eqS] at q <;> first | exact q | exact q.symm
    rw [this]
  | none =>
    dsimp only
    rw [e]
    dsimp only
    rw [eqv_self d (dat_nd h 30 x d e)]
theorem oEq_self {x : Val} {h : AH} {d : PyData} (e : dat h 30 x = some d) : oEq x x h = some (.bl true) := by unfold oEq; rw [eqB_self e]; rfl
theorem oNe_self {x : Val} {h : AH} {d : PyData} (e : dat h 30 x = some d) : oNe x x h = some (.bl false) := by unfold oNe; rw [eqB_self e]; rfl
theorem Sh.eq {k b : Nat} {v : Val} (s : Sh k b v) (hk : k ≤ 30) (h : AH) : oEq v v h = some (.bl true) := by
  obtain ⟨d, e⟩ := dat_ex s hk h
  exact oEq_self e
theorem Sh.ne {k b : Nat} {v : Val} (s : Sh k b v) (hk : k ≤ 30) (h : AH) : oNe v v h = some (.bl false) := by
  obtain ⟨d, e⟩ := dat_ex s hk h
  exact oNe_self e
/-! ### comprehensions that draw -/
theorem lcV_yes {p : Pat} {t : MT} {el : ME} {sl s1 : Sl} {v y : Val} {vs acc : List Val} {h h1 h2 : AH} (e1 : p.bd v sl = some s1) (e2 : t s1 h = .ok true h1) (e3 : el s1 h1 = .ok y h2) (hs : acc.length < 16777216) : lcV p t el sl (v :: vs) acc h = lcV p t el sl vs (acc ++ [y]) h2 := by
  rw [lcV]
  rw [e1]
  dsimp only
  rw [bnd_app, nX, e2]
  dsimp only
  rw [bdK_ok, if_pos rfl, bnd_app, nX, e3]
  dsimp only
  rw [bdK_ok, if_pos (by unfold sizeOk; exact decide_eq_true (by omega))]
theorem lcV_no {p : Pat} {t : MT} {el : ME} {sl s1 : Sl} {v : Val} {vs acc : List Val} {h h1 : AH} (e1 : p.bd v sl = some s1) (e2 : t s1 h = .ok false h1) : lcV p t el sl (v :: vs) acc h = lcV p t el sl vs acc h1 := by
  rw [lcV]
  rw [e1]
  dsimp only
  rw [bnd_app, nX, e2]
  dsimp only
  rw [bdK_ok, if_neg (by decide)]
theorem mut_lst {p n k : Nat} {f : List Val → M Val} {xs ys : List Val} {o o' : AO} {h h2 : AH} (hr : refAt xs p = some n) (hp : plains (xs.set p .non) = true) (ho : h[n]? = some o) (hop : o.plain = true) (e : f (xs.set p (.ref 0)) [o] = .ok (.ref k) h2) (hk : h2[k]? = some (.lst ys)) (hv : plains ys = true) (k0 : k ≠ 0) (ho' : h2[0]? = some o') (hop' : o'.plain = true) :
    mutN p f xs h = .ok (.v (.fl ys)) (h.set n o') := by
  unfold mutN
  rw [hr]
  dsimp only
  rw [bnd_app, fzL_plain hp, bdK_ok, ho]
  dsimp only
  rw [if_pos hop, List.set_set, e]
  dsimp only
  unfold mutB
  have fz : frz 8 (.ref k) h2 = some (.fl ys, h2.set k (.fz (.fl ys))) := by
    unfold frz
    dsimp only
    rw [hk]
    dsimp only
    unfold frzs
    rw [if_pos hv]
    rfl
  rw [fz]
  dsimp only
  rw [List.getElem?_set_ne k0, ho']
  dsimp only
  rw [if_pos hop']
end Mr

set_option Elab.async false
set_option linter.all false
set_option maxRecDepth 100000
set_option maxHeartbeats 1000000
namespace Mr
open PySem PySem.Spec PyProof.Rows L2
/-! ### == and != of encoded things -/
def Enc {α : Type} [DecidableEq α] (k : Nat) (P : α → Prop) (e : α → Val) : Prop := ∃ f : α → PyData, (∀ x, P x → ∀ (h : AH) (n : Nat), k ≤ n → dat h n (e x) = some (f x)) ∧ ∀ x y, P x → P y → PyData.eqv (f x) (f y) = decide (x = y)
section
variable {α β : Type} [DecidableEq α] [DecidableEq β] {k : Nat} {P : α → Prop} {Q : β → Prop} {e : α → Val} {g : β → Val}
theorem Enc.mono {k' : Nat} {P' : α → Prop} (E : Enc k P e) (hk : k ≤ k') (hP : ∀ x, P' x → P x) : Enc k' P' e := by
  obtain ⟨f, h1, h2⟩ := E
  exact ⟨f, fun x hx h n hn => h1 x (hP x hx) h n (by omega), fun x y hx hy => h2 x y (hP x hx) (hP y hy)⟩
theorem Enc.int : Enc 1 (fun _ => True) Val.int := ⟨PyData.int, fun x _ h n hn => by
  obtain ⟨m, rfl⟩ : ∃ m, n = m + 1 := ⟨n - 1, by omega⟩
  rfl, fun x y _ _ => by simp only [PyData.eqv]; exact Bool.eq_iff_iff.mpr (by simp)⟩
theorem Enc.nat : Enc 1 (fun _ => True) (fun n : Nat => Val.int (n : Int)) := ⟨fun n => PyData.int n, fun x _ h n hn => by
  obtain ⟨m, rfl⟩ : ∃ m, n = m + 1 := ⟨n - 1, by omega⟩
  rfl, fun x y _ _ => by simp only [PyData.eqv]; exact Bool.eq_iff_iff.mpr (by simp; omega)⟩
theorem strOk_of {x : Str} (hx : ∀ c ∈ x.cps.toList, c < 0x110000) : PyData.strOk x = true := by
  unfold PyData.strOk
  rw [Array.all_eq_true_iff_forall_mem]
  intro c hc
  exact decide_eq_true (hx c (by simpa using hc))
theorem Enc.str : Enc 1 (fun x : Str => ∀ c ∈ x.cps.toList, c < 0x110000) Val.str := ⟨PyData.str, fun x hx h n hn => by
  obtain ⟨m, rfl⟩ : ∃ m, n = m + 1 := ⟨n - 1, by omega⟩
  show (if PyData.strOk x = true then some (PyData.str x) else none) = _
  rw [if_pos (strOk_of hx)], fun x y _ _ => by simp only [PyData.eqv]; exact Bool.eq_iff_iff.mpr (by simp)⟩
theorem Enc.comp {γ : Type} [DecidableEq γ] {R : γ → Prop} (E : Enc k P e) (c : γ → α) (hc : ∀ x y, R x → R y → c x = c y → x = y) (hP : ∀ x, R x → P (c x)) : Enc k R (fun x => e (c x)) := by
  obtain ⟨f, h1, h2⟩ := E
  refine ⟨fun x => f (c x), fun x hx h n hn => h1 _ (hP x hx) h n hn, fun x y hx hy => ?_⟩
  rw [h2 _ _ (hP x hx) (hP y hy)]
  exact Bool.eq_iff_iff.mpr (by rw [decide_eq_true_eq, decide_eq_true_eq]; exact ⟨hc x y hx hy, fun e => by rw [e]⟩)
theorem Enc.cong {e' : α → Val} (E : Enc k P e) (h : ∀ x, P x → e' x = e x) : Enc k P e' := by
  obtain ⟨f, h1, h2⟩ := E
  exact ⟨f, fun x hx hh n hn => by rw [h x hx]; exact h1 x hx hh n hn, h2⟩
theorem enc_all {f : α → PyData} (h : AH) (n : Nat) : ∀ l : List α, (∀ x ∈ l, dat h n (e x) = some (f x)) → datW (dat h n) (l.map e) = some (l.map f)
  | [], _ => rfl
  | x :: l, hl => by
    rw [List.map_cons, List.map_cons]
    unfold datW
    rw [hl x List.mem_cons_self]
    dsimp only
    rw [enc_all h n l fun y hy => hl y (List.mem_cons_of_mem _ hy)]
    rfl
theorem eqvAll_enc {f : α → PyData} (h2 : ∀ x y, P x → P y → PyData.eqv (f x) (f y) = decide (x = y)) : ∀ l m : List α, (∀ x ∈ l, P x) → (∀ x ∈ m, P x) → PyData.eqvAll (l.map f) (m.map f) = decide (l = m)
  | [], [], _, _ => by simp [PyData.eqvAll]
  | [], y :: m, _, _ => by simp [PyData.eqvAll]
  | x :: l, [], _, _ => by simp [PyData.eqvAll]
  | x :: l, y :: m, hl, hm => by
    rw [List.map_cons, List.map_cons]
    simp only [PyData.eqvAll]
    rw [h2 x y (hl x List.mem_cons_self) (hm y List.mem_cons_self), eqvAll_enc h2 l m (fun z hz => hl z (List.mem_cons_of_mem _ hz)) (fun z hz => hm z (List.mem_cons_of_mem _ hz))]
    exact Bool.eq_iff_iff.mpr (by simp)
theorem Enc.fl (E : Enc k P e) : Enc (k + 1) (fun l : List α => ∀ x ∈ l, P x) (fun l => .fl (l.map e)) := by
  obtain ⟨f, h1, h2⟩ := E
  refine ⟨fun l => .list (l.map f), fun l hl h n hn => ?_, fun l m hl hm => ?_⟩
  · obtain ⟨m, rfl⟩ : ∃ m, n = m + 1 := ⟨n - 1, by omega⟩
    show (datW (dat h m) (l.map e)).map PyData.list = _
    rw [enc_all h m l fun x hx => h1 x (hl x hx) h m (by omega)]
    rfl
  · simp only [PyData.eqv]
    exact eqvAll_enc h2 l m hl hm
theorem Enc.tup (E : Enc k P e) : Enc (k + 1) (fun l : List α => ∀ x ∈ l, P x) (fun l => .tup (l.map e)) := by
  obtain ⟨f, h1, h2⟩ := E
  refine ⟨fun l => .tuple (l.map f), fun l hl h n hn => ?_, fun l m hl hm => ?_⟩
  · obtain ⟨m, rfl⟩ : ∃ m, n = m + 1 := ⟨n - 1, by omega⟩
    show (datW (dat h m) (l.map e)).map PyData.tuple = _
    rw [enc_all h m l fun x hx => h1 x (hl x hx) h m (by omega)]
    rfl
  · simp only [PyData.eqv]
    exact eqvAll_enc h2 l m hl hm
theorem datW_two {h : AH} {n : Nat} {x y : Val} {d d' : PyData} (h1 : dat h n x = some d) (h2 : dat h n y = some d') : datW (dat h n) [x, y] = some [d, d'] := by
  unfold datW
  rw [h1]
  dsimp only
  unfold datW
  rw [h2]
  rfl
theorem eqv_two {a b c d : PyData} {p q : Prop} [Decidable p] [Decidable q] (h1 : PyData.eqv a c = decide p) (h2 : PyData.eqv b d = decide q) : PyData.eqvAll [a, b] [c, d] = (decide p && decide q) := by
  simp only [PyData.eqvAll, h1, h2, Bool.and_true]
theorem Enc.pair (E : Enc k P e) (G : Enc k Q g) : Enc (k + 1) (fun p : α × β => P p.1 ∧ Q p.2) (fun p => .tup [e p.1, g p.2]) := by
  obtain ⟨f, h1, h2⟩ := E
  obtain ⟨f', h1', h2'⟩ := G
  refine ⟨fun p => .tuple [f p.1, f' p.2], fun p hp h n hn => ?_, fun p q hp hq => ?_⟩
  · obtain ⟨m, rfl⟩ : ∃ m, n = m + 1 := ⟨n - 1, by omega⟩
    show (datW (dat h m) [e p.1, g p.2]).map PyData.tuple = _
    rw [datW_two (h1 _ hp.1 h m (by omega)) (h1' _ hp.2 h m (by omega))]
    rfl
  · simp only [PyData.eqv]
    rw [eqv_two (h2 _ _ hp.1 hq.1) (h2' _ _ hp.2 hq.2)]
    obtain ⟨p1, p2⟩ := p
    obtain ⟨q1, q2⟩ := q
    exact Bool.eq_iff_iff.mpr (by simp)
theorem Enc.pairL (E : Enc k P e) (G : Enc k Q g) : Enc (k + 1) (fun p : α × β => P p.1 ∧ Q p.2) (fun p => .fl [e p.1, g p.2]) := by
  obtain ⟨f, h1, h2⟩ := E
  obtain ⟨f', h1', h2'⟩ := G
  refine ⟨fun p => .list [f p.1, f' p.2], fun p hp h n hn => ?_, fun p q hp hq => ?_⟩
  · obtain ⟨m, rfl⟩ : ∃ m, n = m + 1 := ⟨n - 1, by omega⟩
    show (datW (dat h m) [e p.1, g p.2]).map PyData.list = _
    rw [datW_two (h1 _ hp.1 h m (by omega)) (h1' _ hp.2 h m (by omega))]
    rfl
  · simp only [PyData.eqv]
    rw [eqv_two (h2 _ _ hp.1 hq.1) (h2' _ _ hp.2 hq.2)]
    obtain ⟨p1, p2⟩ := p
    obtain ⟨q1, q2⟩ := q
    exact Bool.eq_iff_iff.mpr (by simp)
theorem eqS_dat {x y : Val} {h : AH} {n : Nat} {b : Bool} {d d' : PyData} (hb : eqS x y = some b) (h1 : dat h n x = some d) (h2 : dat h n y = some d') : PyData.eqv d d' = b := by
  cases n with
  | zero => cases h1
  | succ n =>
    have st : ∀ {z : Str} {d : PyData}, dat h (n + 1) (.str z) = some d → d = .str z := fun {z d} e => by
      have e : (if PyData.strOk z = true then some (PyData.str z) else none) = some d := e
      split at e
      · cases e; rfl
      · cases e
    cases x <;> cases y <;> first | (cases hb; done) | skip
    all_goals first
      | (have := st h1; subst this; have := st h2; subst this; cases hb; (simp only [PyData.eqv] <;> exact Bool.eq_iff_iff.mpr (by simp)); done)
      | (have := st h1; subst this; cases h2; cases hb; (simp only [PyData.eqv] <;> exact Bool.eq_iff_iff.mpr (by simp)); done)
      | (have := st h2; subst this; cases h1; cases hb; (simp only [PyData.eqv] <;> exact Bool.eq_iff_iff.mpr (by simp)); done)
      | (cases h1; cases h2; cases hb; (simp only [PyData.eqv] <;> exact Bool.eq_iff_iff.mpr (by simp)); done)
theorem Enc.eqB (E : Enc k P e) (hk : k ≤ 30) {x y : α} (hx : P x) (hy : P y) (h : AH) : Mr.eqB (e x) (e y) h = some (decide (x = y)) := by
  obtain ⟨f, h1, h2⟩ := E
  have e1 := h1 x hx h 30 hk
  have e2 := h1 y hy h 30 hk
  unfold Mr.eqB
  cases q : eqS (e x) (e y) with
  | some b => rw [← h2 x y hx hy, eqS_dat q e1 e2]
  | none =>
    dsimp only
    rw [e1, e2]
    dsimp only
    rw [h2 x y hx hy]
theorem Enc.oEq (E : Enc k P e) (hk : k ≤ 30) {x y : α} (hx : P x) (hy : P y) (h : AH) : Mr.oEq (e x) (e y) h = some (.bl (decide (x = y))) := by
  unfold Mr.oEq
  rw [E.eqB hk hx hy]
  rfl
theorem Enc.oNe (E : Enc k P e) (hk : k ≤ 30) {x y : α} (hx : P x) (hy : P y) (h : AH) : Mr.oNe (e x) (e y) h = some (.bl (!decide (x = y))) := by
  unfold Mr.oNe
  rw [E.eqB hk hx hy]
  rfl
end
/-! ### ranges from nought -/
def rgN (ns : List Nat) : List Val := ns.map fun (k : Nat) => Val.int (k : Int)
theorem rgN_nil : rgN [] = [] := rfl
theorem rgN_cons (k : Nat) (ks : List Nat) : rgN (k :: ks) = .int (k : Int) :: rgN ks := rfl
theorem rgN_len (ks : List Nat) : (rgN ks).length = ks.length := List.length_map ..
theorem rngV_rg (n : Nat) : rngV 0 n = rgN (List.range n) := List.map_congr_left fun k _ => by
  show Val.int (0 + (k : Int)) = Val.int (k : Int)
  rw [Int.zero_add]
theorem plains_rgN (ks : List Nat) : plains (rgN ks) = true := plains_map _ _ fun _ => plain_int _
end Mr

set_option Elab.async false
set_option linter.all false
set_option maxRecDepth 100000
set_option maxHeartbeats 1000000
namespace Mr
open PySem PySem.Spec PyProof.Rows L2
/-! ### running: what My, Mz have brought -/
section
variable (m : ME) (t : MA) (sl : Sl) (h : AH) (xs : List Val) (a b : Str) (n : Nat)
@[simp] theorem mRevL_app : mRevL m sl h = bdK (m sl h) fun x h1 => lfK (revN x h1) h1 := rfl
@[simp] theorem revN_fl : revN (.fl xs) h = some (.n xs.reverse) := rfl
@[simp] theorem mRng3_app : mRng3 t sl h = bdK (t sl h) fun vs h1 => lfK (rng3 vs h1) h1 := rfl
@[simp] theorem mStar_app : mStar m t sl h = bdK (m sl h) fun x h1 => bdK (lfK (seqOf h1 x) h1) fun xs h2 => bdK (t sl h2) fun ys h3 => .ok (xs ++ ys) h3 := rfl
@[simp] theorem seqOf_fl : seqOf h (.fl xs) = some xs := rfl
@[simp] theorem seqOf_sl : seqOf h (.sl xs) = some xs := rfl
@[simp] theorem seqOf_tup : seqOf h (.tup xs) = some xs := rfl
@[simp] theorem fLstripC_str : fLstripC (.str a) [.str b] h = if sizeOk a.length then some (.str (Txt.lstripChars a b)) else none := rfl
@[simp] theorem fStarts_str : fStarts (.str a) [.str b] h = some (.bl (Txt.startswith a b)) := rfl
@[simp] theorem fFind_str : fFind (.str a) [.str b] h = some (.int (Txt.find a b)) := rfl
@[simp] theorem fCountS_str : fCountS (.str a) [.str b] h = some (.int (Txt.count a b)) := rfl
@[simp] theorem oSl_ref (lo hi : Option Int) : oSl (.ref n) lo hi h = (lstAt h n).map fun xs => NV.n (cutL xs lo hi) := rfl
end
theorem mLc2_app (m : MI) (p : Pat) (t : MT) (mi1 : MI) (p1 : Pat) (t1 : MT) (el : ME) (own own1 : List Nat) (sl : Sl) (h : AH) : mLc2 m p t mi1 p1 t1 el own own1 sl h = bdK (m sl h) fun xs h1 => bdK (lc2V p t mi1 p1 t1 el own1 (wipeM sl own) xs [] h1) fun ys h2 => .ok (.n ys) h2 := rfl
/-- both fors change nothing and raise nothing -/
theorem lc2V_on {α β : Type} {p : Pat} {t : MT} {mi1 : MI} {p1 : Pat} {t1 : MT} {el : ME} {own1 : List Nat} {sl : Sl} {h : AH} (e : α → Val) (tb : α → Bool) (inn : α → List β) (e1 : β → Val) (tb1 : α → β → Bool) (g : α → β → Val) :
    ∀ (l : List α) (acc : List Val), (∀ a ∈ l, ∃ s1, p.bd (e a) sl = some s1 ∧ t s1 h = .ok (tb a) h ∧ (tb a = true → mi1 s1 h = .ok ((inn a).map e1) h ∧ ∀ b ∈ inn a, ∃ s2, p1.bd (e1 b) (wipeM s1 own1) = some s2 ∧ t1 s2 h = .ok (tb1 a b) h ∧ (tb1 a b = true → el s2 h = .ok (g a b) h))) →
      acc.length + ((l.filter tb).flatMap fun a => ((inn a).filter (tb1 a)).map (g a)).length + ((l.filter tb).map fun a => (inn a).length).sum ≤ 16777216 →
      lc2V p t mi1 p1 t1 el own1 sl (l.map e) acc h = .ok (acc ++ (l.filter tb).flatMap fun a => ((inn a).filter (tb1 a)).map (g a)) h
  | [], acc, _, _ => by simp [lc2V]
  | a :: l, acc, hv, hl => by
    obtain ⟨s1, f1, f2, f3⟩ := hv a List.mem_cons_self
    have rest := fun acc hl => lc2V_on e tb inn e1 tb1 g l acc (fun c hc => hv c (List.mem_cons_of_mem _ hc)) hl
    rw [List.map_cons]
    unfold lc2V
    rw [f1]
    dsimp only
    rw [bnd_app, nX, f2]
    dsimp only
    rw [bdK_ok]
    cases q : tb a with
    | false =>
      rw [List.filter_cons_of_neg (by simp [q])] at hl
      rw [if_neg (by simp), rest acc hl, List.filter_cons_of_neg (by simp [q])]
    | true =>
      obtain ⟨f4, f5⟩ := f3 q
      rw [List.filter_cons_of_pos (by simp [q]), List.flatMap_cons, List.length_append, List.map_cons, List.sum_cons] at hl
      rw [if_pos rfl, bnd_app, nX, f4]
      dsimp only
      rw [bdK_ok, bnd_app, lcV_on e1 (tb1 a) (g a) (inn a) acc (by omega) f5, bdK_ok, rest _ (by rw [List.length_append]; omega), List.filter_cons_of_pos (by simp [q]), List.flatMap_cons, List.append_assoc]
end Mr

set_option Elab.async false
set_option linter.all false
set_option maxRecDepth 100000
set_option maxHeartbeats 4000000
namespace W
open PySem L2 Mr
abbrev sS (l : List Nat) : Str := ⟨l.toArray⟩
abbrev sV (l : List Nat) : Val := .str (sS l)
@[simp] theorem sS_len (l : List Nat) : (sS l).length = l.length := by simp [Str.length]
@[simp] theorem sS_app (a b : List Nat) : sS a ++ sS b = sS (a ++ b) := TL.ext_tl (by rw [TL.tl_append])
theorem sS_inj {a b : List Nat} (h : sS a = sS b) : a = b := by
  have := congrArg TL.tl h
  exact this
@[simp] theorem sS_eq {a b : List Nat} : (sS a = sS b) = (a = b) := propext ⟨sS_inj, fun h => by rw [h]⟩
theorem s_nil : (("" : String) : Str) = sS [] := by decide +kernel
theorem s_blank : ((" " : String) : Str) = sS [32] := by decide +kernel
theorem s_nl : (("\n" : String) : Str) = sS [10] := by decide +kernel
theorem sz {n : Nat} (h : n ≤ 16777216) : Mr.sizeOk n = true := decide_eq_true h
@[simp] theorem sz0 : Mr.sizeOk 0 = true := rfl
@[simp] theorem sz1 : Mr.sizeOk 1 = true := rfl
@[simp] theorem sz2 : Mr.sizeOk 2 = true := rfl
@[simp] theorem sz3 : Mr.sizeOk 3 = true := rfl
def chunksF : List Nat → List Nat → List (List Nat)
  | held, [] => if held = [] then [] else [held]
  | held, c :: r => if c = 32 then (held ++ [c]) :: chunksF [] r else chunksF (held ++ [c]) r
theorem chunks_len : ∀ (l held : List Nat), (chunksF held l).length ≤ l.length + 1
  | [], held => by unfold chunksF; split <;> simp
  | c :: r, held => by
    unfold chunksF
    split
    · have := chunks_len r []
      simp only [List.length_cons]
      omega
    · have := chunks_len r (held ++ [c])
      simp only [List.length_cons]
      omega
theorem chunks_flat : ∀ (l held : List Nat), (chunksF held l).flatten = held ++ l
  | [], held => by
    unfold chunksF
    split
    · rename_i h; subst h; rfl
    · simp
  | c :: r, held => by
    unfold chunksF
    split
    · rw [List.flatten_cons, chunks_flat r []]; simp
    · rw [chunks_flat r (held ++ [c])]; simp
theorem chunks_ne : ∀ (l held : List Nat), ∀ ch ∈ chunksF held l, ch ≠ []
  | [], held, ch, h => by
    unfold chunksF at h
    split at h
    · cases h
    · rename_i hh
      rw [List.mem_singleton] at h
      rw [h]; exact hh
  | c :: r, held, ch, h => by
    unfold chunksF at h
    split at h
    · rcases List.mem_cons.mp h with e | e
      · rw [e]; simp
      · exact chunks_ne r [] ch e
    · exact chunks_ne r (held ++ [c]) ch h
def cutGo (w : Int) : List (List Nat) → List Nat → List (List Nat) → List (List Nat)
  | ini, last, [] => ini ++ [last]
  | ini, last, ch :: r => if last = [] ∨ ((last.length : Int) + (ch.length : Int) ≤ w) then cutGo w ini (last ++ ch) r else cutGo w (ini ++ [last]) ch r
def cutF (w : Int) (l : List Nat) : List (List Nat) := cutGo w [] [] (chunksF [] l)
theorem ixN_last (n : Nat) : ixN (n + 1) (-1) = some n := by
  unfold ixN
  rw [if_neg (by decide), if_pos (by omega)]
  congr 1
  omega
theorem atI_last' {α : Type} (xs : List α) (v : α) : L2.atI (xs ++ [v]) (-1) = some v := L2.atI_last xs v
theorem set_last {α : Type} (xs : List α) (v u : α) : (xs ++ [v]).set xs.length u = xs ++ [u] := by
  rw [List.set_append_right _ _ (Nat.le_refl _), Nat.sub_self]; rfl
theorem flat_take_le {l : List (List Nat)} (k : Nat) : (l.take k).flatten.length ≤ l.flatten.length := by
  conv => rhs; rw [← List.take_append_drop k l, List.flatten_append, List.length_append]
  exact Nat.le_add_right _ _
theorem mem_flat_le {l : List (List Nat)} {x : List Nat} (h : x ∈ l) : x.length ≤ l.flatten.length := by
  induction l with
  | nil => cases h
  | cons y l ih =>
    rw [List.flatten_cons, List.length_append]
    rcases List.mem_cons.mp h with e | e
    · rw [e]; omega
    · have := ih e; omega
theorem rng_ok {i : Int} (h0 : -1000000000 ≤ i) (h1 : i ≤ 1000000000) : rngOk i = true := by
  unfold rngOk
  rw [Bool.and_eq_true]
  exact ⟨decide_eq_true (by omega), decide_eq_true (by omega)⟩
theorem atI_nat' {α : Type} {xs : List α} {j : Nat} : L2.atI xs (j : Int) = xs[j]? := by
  cases h : xs[j]? with
  | some v => exact L2.atI_nat h
  | none =>
    unfold L2.atI ixN
    have : xs.length ≤ j := List.getElem?_eq_none_iff.mp h
    rw [if_pos (by omega), if_neg (by omega)]
    rfl
def okc (c : Nat) : Prop := c = 32 ∨ (97 ≤ c ∧ c ≤ 122)
def okl (l : List Nat) : Prop := ∀ c ∈ l, okc c
theorem strOk_okl {l : List Nat} (h : okl l) : PyData.strOk (sS l) = true := by
  unfold PyData.strOk
  rw [List.all_toArray] <;> try rfl
  rw [List.all_eq_true]
  intro c hc
  rcases h c hc with e | e
  · simp [e]
  · simp; omega
theorem signs_line : ∀ c : Nat, c < 123 → (c = 32 ∨ (97 ≤ c ∧ c ≤ 122)) → c ∈ (((" abcdefghijklmnopqrstuvwxyz" : String) : Str)).cps.toList := by decide +kernel
theorem signs_text : ∀ c : Nat, c < 123 → (c = 10 ∨ c = 32 ∨ (97 ≤ c ∧ c ≤ 122)) → c ∈ ((("abcdefghijklmnopqrstuvwxyz \n" : String) : Str)).cps.toList := by decide +kernel
abbrev jn (ls : List (List Nat)) : List Nat := TL.joinL [10] ls
theorem jn_len : ∀ {ls : List (List Nat)}, ls ≠ [] → (jn ls).length + 1 = (ls.map fun l => l.length + 1).sum
  | [], h => absurd rfl h
  | [l], _ => by simp [jn, TL.joinL]
  | l :: m :: r, _ => by
    have ih := jn_len (ls := m :: r) (by simp)
    show (l ++ ([10] ++ TL.joinL [10] (m :: r))).length + 1 = _
    rw [List.map_cons, List.sum_cons, ← ih]
    simp only [List.length_append, List.length_singleton, jn]
    omega
theorem map_sS_tl (ls : List (List Nat)) : (ls.map sS).map TL.tl = ls := by
  rw [List.map_map]
  conv => rhs; rw [← List.map_id ls]
  exact List.map_congr_left fun l _ => rfl
theorem jn_str (ls : List (List Nat)) : Txt.join (sS [10]) (ls.map sS) = sS (jn ls) := TL.ext_tl (by
  rw [TL.join_eq, TL.tl_join, map_sS_tl])
theorem split_jn {ls : List (List Nat)} (hne : ls ≠ []) (h10 : ∀ l ∈ ls, 10 ∉ l) : Txt.split (sS (jn ls)) (sS [10]) = ls.map sS := by
  rw [← jn_str]
  refine TL.split_join (s := 10) (S := []) rfl (by decide +kernel) (fun e => hne (List.map_eq_nil_iff.mp e)) fun p hp => ?_
  obtain ⟨l, hl, rfl⟩ := List.mem_map.mp hp
  exact h10 l hl
structure TxOk (ls : List (List Nat)) : Prop where
  ne : ls ≠ []
  ok : ∀ l ∈ ls, okl l
  sm : (jn ls).length ≤ 10000
theorem okl_ten {l : List Nat} (h : okl l) : 10 ∉ l := fun hm => by
  rcases h 10 hm with e | e
  · cases e
  · omega
theorem TxOk.mem_len {ls : List (List Nat)} (t : TxOk ls) {l : List Nat} (hl : l ∈ ls) : l.length ≤ 10000 := by
  have h1 := jn_len t.ne
  have h2 := t.sm
  have h3 : l.length + 1 ≤ (ls.map fun l => l.length + 1).sum := by
    clear h1 h2 t
    induction ls with
    | nil => cases hl
    | cons m r ih =>
      rw [List.map_cons, List.sum_cons]
      rcases List.mem_cons.mp hl with e | e
      · rw [e]; omega
      · have := ih e; omega
  omega
theorem TxOk.lines_len {ls : List (List Nat)} (t : TxOk ls) : ls.length ≤ 10001 := by
  have h1 := jn_len t.ne
  have h2 := t.sm
  have h3 : ls.length ≤ (ls.map fun l => l.length + 1).sum := by
    clear h1 h2 t
    induction ls with
    | nil => exact Nat.zero_le _
    | cons m r ih => rw [List.map_cons, List.sum_cons, List.length_cons]; omega
  omega
abbrev Rw := Nat × Nat × List Nat
def rV (r : Rw) : Val := .tup [.int (r.1 : Int), .int (r.2.1 : Int), sV r.2.2]
def rowsP (i : Nat) : Nat → List (List Nat) → List Rw
  | _, [] => []
  | s, p :: r => (i, s, p) :: rowsP i (s + p.length) r
def rowsA (w : Int) : Nat → List (List Nat) → List Rw
  | _, [] => []
  | i, l :: r => rowsP i 0 (cutF w l) ++ rowsA w (i + 1) r
theorem rowsP_snoc (i : Nat) (p : List Nat) : ∀ (ps : List (List Nat)) (s : Nat), rowsP i s (ps ++ [p]) = rowsP i s ps ++ [(i, s + ps.flatten.length, p)]
  | [], s => by simp [rowsP]
  | q :: r, s => by
    show (i, s, q) :: rowsP i (s + q.length) (r ++ [p]) = _
    rw [rowsP_snoc i p r]
    simp [rowsP]
    omega
theorem rowsA_snoc (w : Int) (l : List Nat) : ∀ (ls : List (List Nat)) (i : Nat), rowsA w i (ls ++ [l]) = rowsA w i ls ++ rowsP (i + ls.length) 0 (cutF w l)
  | [], i => by simp [rowsA]
  | q :: r, i => by
    show rowsP i 0 (cutF w q) ++ rowsA w (i + 1) (r ++ [l]) = _
    rw [rowsA_snoc w l r]
    simp [rowsA]
    rw [show i + 1 + r.length = i + (r.length + 1) by omega]
theorem rowsP_len (i : Nat) : ∀ (ps : List (List Nat)) (s : Nat), (rowsP i s ps).length = ps.length
  | [], s => rfl
  | p :: r, s => by show (rowsP i (s + p.length) r).length + 1 = _; rw [rowsP_len i r]; rfl
theorem cutGo_len (w : Int) : ∀ (cs ini : List (List Nat)) (last : List Nat), (cutGo w ini last cs).length ≤ ini.length + 1 + cs.length
  | [], ini, last => by simp [cutGo]
  | c :: r, ini, last => by
    unfold cutGo
    split
    · have := cutGo_len w r ini (last ++ c)
      rw [List.length_cons]; omega
    · have := cutGo_len w r (ini ++ [last]) c
      rw [List.length_append, List.length_singleton] at this
      rw [List.length_cons]; omega
theorem cut_len (w : Int) (l : List Nat) : (cutF w l).length ≤ l.length + 2 := by
  have := cutGo_len w (chunksF [] l) [] []
  have := chunks_len l []
  unfold cutF
  simp only [List.length_nil] at *
  omega
theorem cutGo_flat (w : Int) : ∀ (cs ini : List (List Nat)) (last : List Nat), (cutGo w ini last cs).flatten = ini.flatten ++ last ++ cs.flatten
  | [], ini, last => by simp [cutGo]
  | c :: r, ini, last => by
    unfold cutGo
    split
    · rw [cutGo_flat w r]; simp
    · rw [cutGo_flat w r]; simp
theorem cut_flat (w : Int) (l : List Nat) : (cutF w l).flatten = l := by
  unfold cutF
  rw [cutGo_flat, chunks_flat]
  simp
theorem cutGo_ne (w : Int) : ∀ (cs ini : List (List Nat)) (last : List Nat), (∀ c ∈ cs, c ≠ []) → (∀ c ∈ ini, c ≠ []) → (last ≠ [] ∨ cs ≠ []) → ∀ p ∈ cutGo w ini last cs, p ≠ []
  | [], ini, last, _, h2, h3, p, hp => by
    rcases h3 with h3 | h3
    · rcases List.mem_append.mp hp with e | e
      · exact h2 p e
      · rw [List.mem_singleton.mp e]; exact h3
    · exact absurd rfl h3
  | c :: r, ini, last, h1, h2, h3, p, hp => by
    have hc := h1 c List.mem_cons_self
    have hr : ∀ x ∈ r, x ≠ [] := fun x hx => h1 x (List.mem_cons_of_mem _ hx)
    unfold cutGo at hp
    split at hp
    · exact cutGo_ne w r ini (last ++ c) hr h2 (.inl fun z => hc (List.append_eq_nil_iff.mp z).2) p hp
    · rename_i hn
      refine cutGo_ne w r (ini ++ [last]) c hr (fun x hx => ?_) (.inl hc) p hp
      rcases List.mem_append.mp hx with e | e
      · exact h2 x e
      · rw [List.mem_singleton.mp e]; exact fun z => hn (.inl z)
theorem cut_ne {w : Int} {l : List Nat} (hl : l ≠ []) : ∀ p ∈ cutF w l, p ≠ [] := by
  refine cutGo_ne w (chunksF [] l) [] [] (chunks_ne l []) (fun _ h => by cases h) (.inr fun z => ?_)
  have := chunks_flat l []
  rw [z] at this
  exact hl (by simpa using this.symm)
theorem cut_nil (w : Int) : cutF w [] = [[]] := by simp [cutF, chunksF, cutGo]
theorem cut_pos (w : Int) (l : List Nat) : cutF w l ≠ [] := by
  by_cases hl : l = []
  · rw [hl, cut_nil]; simp
  · intro z
    have := cut_flat w l
    rw [z] at this
    exact hl this.symm
theorem rowsA_len (w : Int) : ∀ (ls : List (List Nat)) (i : Nat), (rowsA w i ls).length ≤ (ls.map fun l => l.length + 2).sum
  | [], i => Nat.le_refl _
  | l :: r, i => by
    have h1 := rowsA_len w r (i + 1)
    have h2 := cut_len w l
    show (rowsP i 0 (cutF w l) ++ rowsA w (i + 1) r).length ≤ _
    rw [List.length_append, rowsP_len, List.map_cons, List.sum_cons]
    omega
theorem TxOk.sum2 {ls : List (List Nat)} (t : TxOk ls) : (ls.map fun l => l.length + 2).sum ≤ 30000 := by
  have h1 := jn_len t.ne
  have h2 := t.sm
  have h4 := t.lines_len
  have h3 : (ls.map fun l => l.length + 2).sum = (ls.map fun l => l.length + 1).sum + ls.length := by
    clear h1 h2 h4 t
    induction ls with
    | nil => rfl
    | cons m r ih => rw [List.map_cons, List.sum_cons, List.map_cons, List.sum_cons, ih, List.length_cons]; omega
  omega
theorem sum_take (ls : List (List Nat)) (k : Nat) : ((ls.take k).map fun l => l.length + 2).sum ≤ (ls.map fun l => l.length + 2).sum := by
  induction ls generalizing k with
  | nil => simp
  | cons m r ih =>
    cases k with
    | zero => simp
    | succ k =>
      have := ih k
      rw [List.take_succ_cons, List.map_cons, List.sum_cons, List.map_cons, List.sum_cons]
      omega
theorem rows_take_len {ls : List (List Nat)} (t : TxOk ls) (w : Int) (k : Nat) : (rowsA w 0 (ls.take k)).length ≤ 30000 := by
  have h1 := rowsA_len w (ls.take k) 0
  have h2 := sum_take ls k
  have h3 := t.sum2
  omega
theorem map_at {α β : Type} {xs : List α} {f : α → β} {k : Nat} {x : β} (h : (xs.map f)[k]? = some x) : ∃ v, xs[k]? = some v ∧ x = f v := by
  rw [List.getElem?_map] at h
  cases q : xs[k]? with
  | none => rw [q] at h; cases h
  | some v => rw [q] at h; cases h; exact ⟨v, rfl, rfl⟩
theorem take_snoc {α : Type} {xs : List α} {k : Nat} {v : α} (h : xs[k]? = some v) : xs.take (k + 1) = xs.take k ++ [v] := by rw [List.take_add_one, h]; rfl
theorem jn_signs : ∀ {ls : List (List Nat)}, (∀ l ∈ ls, okl l) → ∀ c ∈ jn ls, c = 10 ∨ okc c
  | [], _, c, hc => by cases hc
  | [l], h, c, hc => .inr (h l (List.mem_singleton.mpr rfl) c hc)
  | l :: m :: r, h, c, hc => by
    have hc : c ∈ l ++ ([10] ++ TL.joinL [10] (m :: r)) := hc
    rcases List.mem_append.mp hc with e | e
    · exact .inr (h l List.mem_cons_self c e)
    · rcases List.mem_append.mp e with e | e
      · exact .inl (List.mem_singleton.mp e)
      · exact jn_signs (fun x hx => h x (List.mem_cons_of_mem _ hx)) c e
def stF (ls : List (List Nat)) (k : Nat) : Nat := ((ls.take k).map fun l => l.length + 1).sum
theorem stF_succ {ls : List (List Nat)} {k : Nat} {l : List Nat} (h : ls[k]? = some l) : stF ls (k + 1) = stF ls k + (l.length + 1) := by
  unfold stF
  rw [take_snoc h, List.map_append, List.sum_append]
  rfl
theorem stF_zero (ls : List (List Nat)) : stF ls 0 = 0 := rfl
theorem stF_all (ls : List (List Nat)) : stF ls ls.length = (ls.map fun l => l.length + 1).sum := by unfold stF; rw [List.take_length]
def stV (ls : List (List Nat)) (n : Nat) : List Val := (List.range n).map fun k => Val.int (stF ls k : Int)
theorem stV_snoc (ls : List (List Nat)) (n : Nat) : stV ls (n + 1) = stV ls n ++ [.int (stF ls n : Int)] := by
  unfold stV
  rw [List.range_succ, List.map_append]
  rfl
theorem stV_len (ls : List (List Nat)) (n : Nat) : (stV ls n).length = n := by unfold stV; rw [List.length_map, List.length_range]
theorem stV_at {ls : List (List Nat)} {n k : Nat} (h : k < n) : (stV ls n)[k]? = some (.int (stF ls k : Int)) := by
  unfold stV
  rw [List.getElem?_map, List.getElem?_range h]
  rfl
theorem cutL_butlast {α : Type} (xs : List α) : cutL xs none (some (-1)) = xs.take (xs.length - 1) := by
  unfold cutL
  have e1 : HT.sIx xs.length 0 none = 0 := rfl
  have e2 : HT.sIx xs.length xs.length (some (-1)) = xs.length - 1 := by
    unfold HT.sIx
    simp
    omega
  rw [e1, e2]
  rfl
def bg (st : Nat → Nat) (r : Rw) : Nat := st r.1 + r.2.1
def Chn (st : Nat → Nat) (e : Nat) : List Rw → Prop
  | [] => True
  | [r] => bg st r + r.2.2.length + 1 = e
  | r :: r' :: rest => ((r'.1 ≠ r.1 ∧ bg st r' = bg st r + r.2.2.length + 1) ∨ (r'.1 = r.1 ∧ bg st r' = bg st r + r.2.2.length ∧ 1 ≤ r.2.2.length)) ∧ Chn st e (r' :: rest)
theorem chnP (st : Nat → Nat) (e i : Nat) (rest : List Rw) : ∀ (ps : List (List Nat)) (s : Nat), ps ≠ [] → ((∀ p ∈ ps, p ≠ []) ∨ ps.length = 1) → Chn st e rest →
    (rest = [] → st i + (s + ps.flatten.length) + 1 = e) → (∀ r' r2, rest = r' :: r2 → r'.1 ≠ i ∧ bg st r' = st i + (s + ps.flatten.length) + 1) → Chn st e (rowsP i s ps ++ rest)
  | [], s, h, _, _, _, _ => absurd rfl h
  | [p], s, _, _, hc, h1, h2 => by
    show Chn st e ((i, s, p) :: rest)
    cases rest with
    | nil =>
      have := h1 rfl
      simp at this
      show st i + s + p.length + 1 = e
      omega
    | cons r' r2 =>
      obtain ⟨a, b⟩ := h2 r' r2 rfl
      simp at b
      refine ⟨.inl ⟨a, ?_⟩, hc⟩
      show bg st r' = st i + s + p.length + 1
      omega
  | p :: q :: r, s, _, hn, hc, h1, h2 => by
    have hall : ∀ x ∈ p :: q :: r, x ≠ [] := by
      rcases hn with hn | hn
      · exact hn
      · simp at hn
    have ih := chnP st e i rest (q :: r) (s + p.length) (by simp) (.inl fun x hx => hall x (List.mem_cons_of_mem _ hx)) hc
      (fun hr => by have := h1 hr; rw [List.flatten_cons, List.length_append] at this; omega)
      (fun r' r2 hr => by have := h2 r' r2 hr; rw [List.flatten_cons, List.length_append] at this; exact ⟨this.1, by omega⟩)
    have hp : p ≠ [] := hall p List.mem_cons_self
    have hp1 : 1 ≤ p.length := List.length_pos_iff.mpr hp
    refine ⟨.inr ⟨rfl, ?_, hp1⟩, ih⟩
    show st i + (s + p.length) = st i + s + p.length
    omega
theorem chnA (w : Int) (st : Nat → Nat) (e : Nat) : ∀ (ls : List (List Nat)) (i : Nat), (∀ j l, ls[j]? = some l → st (i + j + 1) = st (i + j) + (l.length + 1)) → st (i + ls.length) = e → Chn st e (rowsA w i ls)
  | [], i, _, _ => trivial
  | l :: r, i, h, he => by
    have ih := chnA w st e r (i + 1) (fun j m hm => by
      have := h (j + 1) m (by simpa using hm)
      rw [show i + 1 + j + 1 = i + (j + 1) + 1 by omega, show i + 1 + j = i + (j + 1) by omega]
      exact this) (by rw [← he, List.length_cons]; congr 1; omega)
    have h0 : st (i + 1) = st i + (l.length + 1) := h 0 l rfl
    show Chn st e (rowsP i 0 (cutF w l) ++ rowsA w (i + 1) r)
    refine chnP st e i _ (cutF w l) 0 (cut_pos w l) ?_ ih ?_ ?_
    · by_cases hl : l = []
      · right; rw [hl, cut_nil]; rfl
      · exact .inl (cut_ne hl)
    · intro hr
      have : r = [] := by
        cases r with
        | nil => rfl
        | cons m r2 =>
          have z : rowsP (i + 1) 0 (cutF w m) ++ rowsA w (i + 1 + 1) r2 = [] := hr
          have z2 := congrArg List.length (List.append_eq_nil_iff.mp z).1
          rw [rowsP_len] at z2
          exact absurd (List.eq_nil_of_length_eq_zero z2) (cut_pos w m)
      subst this
      rw [cut_flat]
      rw [List.length_singleton] at he
      omega
    · intro r' r2 hr
      cases r with
      | nil => cases hr
      | cons m r3 =>
        have z : rowsP (i + 1) 0 (cutF w m) ++ rowsA w (i + 1 + 1) r3 = r' :: r2 := hr
        cases q : cutF w m with
        | nil => exact absurd q (cut_pos w m)
        | cons p ps =>
          rw [q] at z
          have z3 : ((i + 1, 0, p) : Rw) = r' := (List.cons.inj z).1
          rw [← z3, cut_flat]
          refine ⟨?_, ?_⟩
          · show i + 1 ≠ i; omega
          · show st (i + 1) + 0 = st i + (0 + l.length) + 1; omega
def lastB (R : List Rw) (k i : Nat) : Bool := decide (k + 1 = R.length) || (match R[k + 1]? with
  | some r => decide (r.1 ≠ i)
  | none => false)
def bF (st : Nat → Nat) (e : Nat) (R : List Rw) (k : Nat) : Nat := match R[k]? with
  | some r => bg st r
  | none => e
theorem chn_at (st : Nat → Nat) (e : Nat) : ∀ (R : List Rw) (k : Nat) (r : Rw), Chn st e R → R[k]? = some r →
    bF st e R (k + 1) = bg st r + r.2.2.length + (if lastB R k r.1 = true then 1 else 0) ∧ bg st r < bF st e R (k + 1)
  | [], k, r, _, h => by cases h
  | [a], 0, r, c, h => by
    cases h
    have c : bg st a + a.2.2.length + 1 = e := c
    have e1 : bF st e [a] (0 + 1) = e := rfl
    have e2 : lastB [a] 0 a.1 = true := rfl
    rw [e1, e2, if_pos rfl]
    omega
  | [a], k + 1, r, c, h => by cases h
  | a :: b :: rest, 0, r, c, h => by
    cases h
    obtain ⟨c, -⟩ := c
    have e1 : bF st e (a :: b :: rest) (0 + 1) = bg st b := rfl
    have e2 : lastB (a :: b :: rest) 0 a.1 = decide (b.1 ≠ a.1) := by
      unfold lastB
      simp
    rw [e1, e2]
    rcases c with ⟨c1, c2⟩ | ⟨c1, c2, c3⟩
    · rw [decide_eq_true c1, if_pos rfl]; omega
    · rw [decide_eq_false (fun z => z c1)]; simp; omega
  | a :: b :: rest, k + 1, r, c, h => by
    have ih := chn_at st e (b :: rest) k r c.2 h
    have e1 : bF st e (a :: b :: rest) (k + 1 + 1) = bF st e (b :: rest) (k + 1) := rfl
    have e2 : lastB (a :: b :: rest) (k + 1) r.1 = lastB (b :: rest) k r.1 := by
      unfold lastB
      simp
    rw [e1, e2]
    exact ih
theorem rowP_in (i : Nat) : ∀ (ps : List (List Nat)) (s : Nat) (r : Rw), r ∈ rowsP i s ps → r.1 = i ∧ s ≤ r.2.1 ∧ r.2.1 + r.2.2.length ≤ s + ps.flatten.length ∧ r.2.2 ∈ ps
  | [], s, r, h => by cases h
  | p :: ps, s, r, h => by
    have h : r ∈ (i, s, p) :: rowsP i (s + p.length) ps := h
    rw [List.flatten_cons, List.length_append]
    rcases List.mem_cons.mp h with e | e
    · subst e
      refine ⟨rfl, Nat.le_refl _, ?_, List.mem_cons_self⟩
      show s + p.length ≤ s + (p.length + ps.flatten.length)
      omega
    · obtain ⟨a, b, c, d⟩ := rowP_in i ps (s + p.length) r e
      exact ⟨a, by omega, by omega, List.mem_cons_of_mem _ d⟩
theorem rowA_in (w : Int) : ∀ (ls : List (List Nat)) (i : Nat) (r : Rw), r ∈ rowsA w i ls → ∃ j l, ls[j]? = some l ∧ r.1 = i + j ∧ r.2.1 + r.2.2.length ≤ l.length ∧ r.2.2 ∈ cutF w l
  | [], i, r, h => by cases h
  | l :: ls, i, r, h => by
    have h : r ∈ rowsP i 0 (cutF w l) ++ rowsA w (i + 1) ls := h
    rcases List.mem_append.mp h with e | e
    · obtain ⟨a, b, c, d⟩ := rowP_in i (cutF w l) 0 r e
      rw [cut_flat] at c
      exact ⟨0, l, rfl, a, by omega, d⟩
    · obtain ⟨j, m, a, b, c, d⟩ := rowA_in w ls (i + 1) r e
      exact ⟨j + 1, m, by simpa using a, by omega, c, d⟩
structure Lay (ls : List (List Nat)) (R : List Rw) (b : Nat → Nat) : Prop where
  pos : 0 < R.length
  b0 : b 0 = 0
  bN : b R.length = (jn ls).length + 1
  mono : ∀ k, k < R.length → b k < b (k + 1)
  row : ∀ k r, R[k]? = some r → b k = stF ls r.1 + r.2.1 ∧ b (k + 1) = b k + r.2.2.length + (if lastB R k r.1 = true then 1 else 0) ∧ r.1 < ls.length ∧ b (k + 1) ≤ stF ls (r.1 + 1) ∧ r.2.2.length ≤ 10000
theorem lay {ls : List (List Nat)} (t : TxOk ls) (w : Int) : Lay ls (rowsA w 0 ls) (bF (stF ls) ((jn ls).length + 1) (rowsA w 0 ls)) := by
  have jl := jn_len t.ne
  have e : stF ls ls.length = (jn ls).length + 1 := by rw [stF_all, jl]
  have ch := chnA w (stF ls) ((jn ls).length + 1) ls 0 (fun j l hl => by rw [Nat.zero_add]; exact stF_succ hl) (by rw [Nat.zero_add]; exact e)
  obtain ⟨p, ps, hps⟩ : ∃ p ps, rowsA w 0 ls = (0, 0, p) :: ps := by
    cases q : ls with
    | nil => exact absurd q t.ne
    | cons l r =>
      cases q2 : cutF w l with
      | nil => exact absurd q2 (cut_pos w l)
      | cons p ps =>
        refine ⟨p, rowsP 0 (0 + p.length) ps ++ rowsA w 1 r, ?_⟩
        show rowsP 0 0 (cutF w l) ++ rowsA w 1 r = _
        rw [q2]
        rfl
  have at' : ∀ k r, (rowsA w 0 ls)[k]? = some r → bF (stF ls) ((jn ls).length + 1) (rowsA w 0 ls) k = bg (stF ls) r := fun k r hr => by unfold bF; rw [hr]
  refine ⟨by rw [hps]; simp, ?_, ?_, ?_, ?_⟩
  · rw [at' 0 (0, 0, p) (by rw [hps]; rfl)]; rfl
  · unfold bF; rw [List.getElem?_eq_none (Nat.le_refl _)]
  · intro k hk
    rw [at' k _ (List.getElem?_eq_getElem hk)]
    exact (chn_at (stF ls) _ _ k _ ch (List.getElem?_eq_getElem hk)).2
  · intro k r hr
    obtain ⟨a, c⟩ := chn_at (stF ls) _ _ k _ ch hr
    obtain ⟨j, l, x1, x2, x3, x4⟩ := rowA_in w ls 0 r (List.mem_of_getElem? hr)
    rw [Nat.zero_add] at x2
    rw [at' k r hr]
    have hl := t.mem_len (List.mem_of_getElem? x1)
    refine ⟨rfl, a, by rw [x2]; exact (List.getElem?_eq_some_iff.mp x1).1, ?_, by omega⟩
    rw [a, x2, stF_succ x1]
    show stF ls r.1 + r.2.1 + _ + _ ≤ _
    rw [x2]
    split <;> omega
theorem Lay.le {ls : List (List Nat)} {R : List Rw} {b : Nat → Nat} (L : Lay ls R b) {i j : Nat} (h : i ≤ j) (hj : j ≤ R.length) : b i ≤ b j := by
  induction j with
  | zero => rw [Nat.le_zero.mp h]; exact Nat.le_refl _
  | succ j ih =>
    rcases Nat.lt_or_ge i (j + 1) with h1 | h1
    · have := ih (by omega) (by omega)
      have := L.mono j (by omega)
      omega
    · have : i = j + 1 := by omega
      rw [this]; exact Nat.le_refl _
theorem Lay.find {ls : List (List Nat)} {R : List Rw} {b : Nat → Nat} (L : Lay ls R b) {P : Nat} : ∀ m, m ≤ R.length → P < b m → ∃ k, k < m ∧ b k ≤ P ∧ P < b (k + 1)
  | 0, _, h => by rw [L.b0] at h; omega
  | m + 1, hm, h => by
    by_cases hp : P < b m
    · obtain ⟨k, a, c⟩ := L.find m (by omega) hp
      exact ⟨k, by omega, c⟩
    · exact ⟨m, by omega, by omega, h⟩
theorem stF_mono {ls : List (List Nat)} {i j : Nat} (h : i ≤ j) : stF ls i ≤ stF ls j := by
  induction j with
  | zero => rw [Nat.le_zero.mp h]; exact Nat.le_refl _
  | succ j ih =>
    rcases Nat.lt_or_ge i (j + 1) with h1 | h1
    · refine Nat.le_trans (ih (by omega)) ?_
      cases q : ls[j]? with
      | none =>
        have := List.getElem?_eq_none_iff.mp q
        unfold stF
        rw [List.take_of_length_le (by omega), List.take_of_length_le (by omega)]
        exact Nat.le_refl _
      | some l => rw [stF_succ q]; omega
    · have : i = j + 1 := by omega
      rw [this]; exact Nat.le_refl _
theorem count_le {f : Nat → Nat} {n i P : Nat} (hi : i < n) (h1 : ∀ j, j ≤ i → f j ≤ P) (h2 : ∀ j, i < j → P < f j) : ((List.range n).filter fun k => decide (f k ≤ P)).length = i + 1 := by
  have e : (List.range n).filter (fun k => decide (f k ≤ P)) = (List.range n).filter (fun k => decide (k ≤ i)) := by
    refine List.filter_congr fun k _ => ?_
    by_cases hk : k ≤ i
    · simp [hk, h1 k hk]
    · have := h2 k (by omega)
      simp [hk]; omega
  rw [e]
  clear h1 h2 e
  induction n with
  | zero => omega
  | succ n ih =>
    rw [List.range_succ, List.filter_append, List.length_append]
    by_cases hn : i < n
    · rw [ih hn]
      have : ¬ n ≤ i := by omega
      simp [this]
    · have : i = n := by omega
      subst this
      have : (List.range i).filter (fun k => decide (k ≤ i)) = List.range i := List.filter_eq_self.mpr fun k hk => by
        have := List.mem_range.mp hk
        simp; omega
      rw [this]
      simp
theorem filter_last {n k : Nat} {t : Nat → Bool} (hk : k < n) (h1 : t k = true) (h2 : ∀ j, k < j → j < n → t j = false) : ∃ xs, (List.range n).filter t = xs ++ [k] := by
  induction n with
  | zero => omega
  | succ n ih =>
    rw [List.range_succ, List.filter_append]
    by_cases hn : k < n
    · obtain ⟨xs, e⟩ := ih hn fun j a c => h2 j a (by omega)
      have := h2 n hn (by omega)
      exact ⟨xs, by rw [e]; simp [this]⟩
    · have : k = n := by omega
      subst this
      exact ⟨(List.range k).filter t, by simp [h1]⟩
end W

set_option Elab.async false
set_option linter.all false
set_option maxRecDepth 100000
namespace W
open PySem L2 Mr
/-- the rules that run the mirror, as one -/
theorem RR : ((((((((type_of% @Mr.bdK_ok) ∧ ((type_of% @Mr.bdK_exc) ∧ (type_of% @Mr.bdK_bad))) ∧ (((type_of% @Mr.bnd_app) ∧ (type_of% @Mr.ret_app)) ∧ ((type_of% @Mr.lfK_some) ∧ (type_of% @Mr.lfK_none)))) ∧ (((type_of% @Mr.lft_app) ∧ ((type_of% @Mr.lhK_some) ∧ (type_of% @Mr.lhK_none))) ∧ (((type_of% @Mr.lfh_app) ∧ (type_of% @Mr.vrK_some)) ∧ ((type_of% @Mr.mVar_app) ∧ (type_of% @Mr.mC_app))))) ∧ ((((type_of% @Mr.mOp_app) ∧ ((type_of% @Mr.mOpN_app) ∧ (type_of% @Mr.mUn_app))) ∧ (((type_of% @Mr.mF_app) ∧ (type_of% @Mr.mT_app)) ∧ ((type_of% @Mr.mTest_app) ∧ (type_of% @Mr.tst_bl)))) ∧ (((type_of% @Mr.mAnd_app) ∧ ((type_of% @Mr.mOr_app) ∧ (type_of% @Mr.mNot_app))) ∧ (((type_of% @Mr.blK_bl) ∧ (type_of% @Mr.mAndV_app)) ∧ ((type_of% @Mr.mOrV_app) ∧ (type_of% @Mr.ntK_bl)))))) ∧ (((((type_of% @Mr.mNotV_app) ∧ ((type_of% @Mr.mIf_app) ∧ (type_of% @Mr.mChain_app))) ∧ (((type_of% @Mr.mNil_app) ∧ (type_of% @Mr.mCons_app)) ∧ ((type_of% @Mr.mTup_app) ∧ (type_of% @Mr.mLst_app)))) ∧ (((type_of% @Mr.mCall_app) ∧ ((type_of% @Mr.mCallN_app) ∧ (type_of% @Mr.mCallP_app))) ∧ (((type_of% @Mr.mCallM_app) ∧ (type_of% @Mr.mCallK_app)) ∧ ((type_of% @Mr.mMeth_app) ∧ (type_of% @Mr.mMethN_app))))) ∧ ((((type_of% @Mr.mMethH_app) ∧ ((type_of% @Mr.mNoPart_app) ∧ (type_of% @Mr.mPart_app))) ∧ (((type_of% @Mr.intOf_int) ∧ (type_of% @Mr.mSl_app)) ∧ ((type_of% @Mr.mIsi_app) ∧ (type_of% @Mr.sbK_ok)))) ∧ (((type_of% @Mr.sbK_exc) ∧ ((type_of% @Mr.sB_app) ∧ (type_of% @Mr.sqK_nx))) ∧ (((type_of% @Mr.sqK_rt) ∧ (type_of% @Mr.sqK_ex)) ∧ ((type_of% @Mr.sqK_bk) ∧ (type_of% @Mr.sqK_ct))))))) ∧ ((((((type_of% @Mr.mNext_app) ∧ ((type_of% @Mr.mBreak_app) ∧ (type_of% @Mr.mCont_app))) ∧ (((type_of% @Mr.mSeq_app) ∧ (type_of% @Mr.mDrop_app)) ∧ ((type_of% @Mr.mRet_app) ∧ (type_of% @Mr.mRetN_app)))) ∧ (((type_of% @Mr.mIfS_app) ∧ ((type_of% @Mr.mSet_app) ∧ (type_of% @Mr.pbK_some))) ∧ (((type_of% @Mr.mAsg_app) ∧ (type_of% @Mr.p2K_two)) ∧ ((type_of% @Mr.mPar_app) ∧ (type_of% @Mr.p3K_three))))) ∧ ((((type_of% @Mr.mPar3_app) ∧ ((type_of% @Mr.stK_some) ∧ (type_of% @Mr.mSub_app))) ∧ (((type_of% @Mr.auK_some) ∧ (type_of% @Mr.nsK_some)) ∧ ((type_of% @Mr.mAug_app) ∧ (type_of% @Mr.mRaise_app)))) ∧ (((type_of% @Mr.lpK_nx) ∧ ((type_of% @Mr.lpK_ct) ∧ (type_of% @Mr.lpK_bk))) ∧ (((type_of% @Mr.lpK_rt) ∧ (type_of% @Mr.lpK_ex)) ∧ ((type_of% @Mr.forV_nil) ∧ (type_of% @Mr.mFor_app)))))) ∧ (((((type_of% @Mr.Pat.bd_nm) ∧ ((type_of% @Mr.bd_tp2) ∧ (type_of% @Mr.bd_tp3))) ∧ (((type_of% @Mr.obind_some) ∧ (type_of% @Mr.finK_rt)) ∧ ((type_of% @Mr.finK_nx) ∧ (type_of% @Mr.finK_ex)))) ∧ (((type_of% @Mr.plains_nil) ∧ ((type_of% @Mr.plains_cons) ∧ (type_of% @Mr.plain_int))) ∧ (((type_of% @Mr.plain_str) ∧ (type_of% @Mr.plain_bl)) ∧ ((type_of% @Mr.plain_non) ∧ (type_of% @Mr.plain_fl))))) ∧ ((((type_of% @Mr.plain_sl) ∧ ((type_of% @Mr.plain_fd) ∧ (type_of% @Mr.plain_ob))) ∧ (((type_of% @Mr.plain_ex) ∧ (type_of% @Mr.plain_tup)) ∧ ((type_of% @Mr.NVF_v) ∧ (type_of% @Mr.NVT_v)))) ∧ (((type_of% @Mr.NVT_n) ∧ ((type_of% @Mr.lcV_nil) ∧ (type_of% @Mr.mYes_app))) ∧ (((type_of% @Mr.mIter_app) ∧ (type_of% @Mr.itK_tup)) ∧ ((type_of% @Mr.itK_str) ∧ (type_of% @Mr.itK_fl)))))))) ∧ (((((((type_of% @Mr.itK_sl) ∧ ((type_of% @Mr.mRng1_app) ∧ (type_of% @Mr.mRng2_app))) ∧ (((type_of% @Mr.mEnum_app) ∧ (type_of% @Mr.enK_fl)) ∧ ((type_of% @Mr.enK_sl) ∧ (type_of% @Mr.mZip_app)))) ∧ (((type_of% @Mr.zpK_fl) ∧ ((type_of% @Mr.oAdd_int) ∧ (type_of% @Mr.oAdd_ib))) ∧ (((type_of% @Mr.oAdd_str) ∧ (type_of% @Mr.oAdd_fl)) ∧ ((type_of% @Mr.oSub_int) ∧ (type_of% @Mr.oDiv_int))))) ∧ ((((type_of% @Mr.oMod_int) ∧ ((type_of% @Mr.oPow_int) ∧ (type_of% @Mr.oMul_int))) ∧ (((type_of% @Mr.oMul_str) ∧ (type_of% @Mr.uNeg_int)) ∧ ((type_of% @Mr.oEq_int) ∧ (type_of% @Mr.oNe_int)))) ∧ (((type_of% @Mr.oEq_str) ∧ ((type_of% @Mr.oNe_str) ∧ (type_of% @Mr.oEq_bl))) ∧ (((type_of% @Mr.oNe_bl) ∧ (type_of% @Mr.oEq_nil)) ∧ ((type_of% @Mr.oNe_nil) ∧ (type_of% @Mr.oLt_int)))))) ∧ (((((type_of% @Mr.oLe_int) ∧ ((type_of% @Mr.oGt_int) ∧ (type_of% @Mr.oGe_int))) ∧ (((type_of% @Mr.oIsN_non) ∧ (type_of% @Mr.oNotN_non)) ∧ ((type_of% @Mr.isNon_non) ∧ (type_of% @Mr.isNon_int)))) ∧ (((type_of% @Mr.isNon_str) ∧ ((type_of% @Mr.isNon_fl) ∧ (type_of% @Mr.isNon_tup))) ∧ (((type_of% @Mr.oAug_int) ∧ (type_of% @Mr.oAug_str)) ∧ ((type_of% @Mr.cLen_str) ∧ (type_of% @Mr.cLen_fl))))) ∧ ((((type_of% @Mr.cLen_sl) ∧ ((type_of% @Mr.cLen_tup) ∧ (type_of% @Mr.cInt_int))) ∧ (((type_of% @Mr.cInt_bl) ∧ (type_of% @Mr.cMin2_int)) ∧ ((type_of% @Mr.cMax2_int) ∧ (type_of% @Mr.oIx_fl)))) ∧ (((type_of% @Mr.oIx_sl) ∧ ((type_of% @Mr.oIx_tup) ∧ (type_of% @Mr.oIx_str))) ∧ (((type_of% @Mr.ix1_some) ∧ (type_of% @Mr.tyC_str)) ∧ ((type_of% @Mr.tyC_fl) ∧ (type_of% @Mr.oSl_str))))))) ∧ ((((((type_of% @Mr.oSl_fl) ∧ ((type_of% @Mr.oSl_sl) ∧ (type_of% @Mr.rng1_int))) ∧ (((type_of% @Mr.rng2_int) ∧ (type_of% @Mr.isi_str_str)) ∧ ((type_of% @Mr.isi_int_int) ∧ (type_of% @Mr.isi_bool_int)))) ∧ (((type_of% @Mr.isi_list_fl) ∧ ((type_of% @Mr.isi_tuple_tup) ∧ (type_of% @Mr.cList_fl))) ∧ (((type_of% @Mr.mut_0) ∧ (type_of% @Mr.mut_s)) ∧ ((type_of% @Mr.lst_0) ∧ (type_of% @Mr.lst_s))))) ∧ ((((type_of% @Mr.tyC_ref0) ∧ ((type_of% @Mr.tyC_ref1) ∧ (type_of% @Mr.tyC_ref2))) ∧ (((type_of% @Mr.fAppend_ref) ∧ (type_of% @Mr.apK_some)) ∧ ((type_of% @Mr.oIx_ref) ∧ (type_of% @Mr.ixK_some)))) ∧ (((type_of% @Mr.stL_ref) ∧ ((type_of% @Mr.cLen_ref) ∧ (type_of% @Mr.omap_some))) ∧ (((type_of% @Mr.oAdd_rf) ∧ (type_of% @Mr.adK_some)) ∧ ((type_of% @Mr.AOp_lst) ∧ (type_of% @Mr.mTestV_app)))))) ∧ (((((type_of% @Mr.tstV_tup) ∧ ((type_of% @Mr.tstV_bl) ∧ (type_of% @Mr.mLRng1_app))) ∧ (((type_of% @Mr.uBits_int) ∧ (type_of% @Mr.mDict0_app)) ∧ ((type_of% @Mr.mNew_app) ∧ (type_of% @Mr.fldO_ob)))) ∧ (((type_of% @Mr.mSetF_app) ∧ ((type_of% @Mr.cListS_str) ∧ (type_of% @Mr.cListS_fl))) ∧ (((type_of% @Mr.cTup_fl) ∧ (type_of% @Mr.oEmp_fl)) ∧ ((type_of% @Mr.oIsB_bl) ∧ (type_of% @Mr.oNotB_bl))))) ∧ ((((type_of% @Mr.mRevL_app) ∧ ((type_of% @Mr.revN_fl) ∧ (type_of% @Mr.mRng3_app))) ∧ (((type_of% @Mr.mStar_app) ∧ (type_of% @Mr.seqOf_fl)) ∧ ((type_of% @Mr.seqOf_sl) ∧ (type_of% @Mr.seqOf_tup)))) ∧ ((((type_of% @Mr.fLstripC_str) ∧ (type_of% @Mr.fStarts_str)) ∧ ((type_of% @Mr.fFind_str) ∧ (type_of% @Mr.fCountS_str))) ∧ (((type_of% @Mr.oSl_ref) ∧ (type_of% @Mr.NVF_n)) ∧ ((type_of% @W.sS_len) ∧ (type_of% @W.sS_app))))))))) := ⟨⟨⟨⟨⟨⟨⟨@Mr.bdK_ok, ⟨@Mr.bdK_exc, @Mr.bdK_bad⟩⟩, ⟨⟨@Mr.bnd_app, @Mr.ret_app⟩, ⟨@Mr.lfK_some, @Mr.lfK_none⟩⟩⟩, ⟨⟨@Mr.lft_app, ⟨@Mr.lhK_some, @Mr.lhK_none⟩⟩, ⟨⟨@Mr.lfh_app, @Mr.vrK_some⟩, ⟨@Mr.mVar_app, @Mr.mC_app⟩⟩⟩⟩, ⟨⟨⟨@Mr.mOp_app, ⟨@Mr.mOpN_app, @Mr.mUn_app⟩⟩, ⟨⟨@Mr.mF_app, @Mr.mT_app⟩, ⟨@Mr.mTest_app, @Mr.tst_bl⟩⟩⟩, ⟨⟨@Mr.mAnd_app, ⟨@Mr.mOr_app, @Mr.mNot_app⟩⟩, ⟨⟨@Mr.blK_bl, @Mr.mAndV_app⟩, ⟨@Mr.mOrV_app, @Mr.ntK_bl⟩⟩⟩⟩⟩, ⟨⟨⟨⟨@Mr.mNotV_app, ⟨@Mr.mIf_app, @Mr.mChain_app⟩⟩, ⟨⟨@Mr.mNil_app, @Mr.mCons_app⟩, ⟨@Mr.mTup_app, @Mr.mLst_app⟩⟩⟩, ⟨⟨@Mr.mCall_app, ⟨@Mr.mCallN_app, @Mr.mCallP_app⟩⟩, ⟨⟨@Mr.mCallM_app, @Mr.mCallK_app⟩, ⟨@Mr.mMeth_app, @Mr.mMethN_app⟩⟩⟩⟩, ⟨⟨⟨@Mr.mMethH_app, ⟨@Mr.mNoPart_app, @Mr.mPart_app⟩⟩, ⟨⟨@Mr.intOf_int, @Mr.mSl_app⟩, ⟨@Mr.mIsi_app, @Mr.sbK_ok⟩⟩⟩, ⟨⟨@Mr.sbK_exc, ⟨@Mr.sB_app, @Mr.sqK_nx⟩⟩, ⟨⟨@Mr.sqK_rt, @Mr.sqK_ex⟩, ⟨@Mr.sqK_bk, @Mr.sqK_ct⟩⟩⟩⟩⟩⟩, ⟨⟨⟨⟨⟨@Mr.mNext_app, ⟨@Mr.mBreak_app, @Mr.mCont_app⟩⟩, ⟨⟨@Mr.mSeq_app, @Mr.mDrop_app⟩, ⟨@Mr.mRet_app, @Mr.mRetN_app⟩⟩⟩, ⟨⟨@Mr.mIfS_app, ⟨@Mr.mSet_app, @Mr.pbK_some⟩⟩, ⟨⟨@Mr.mAsg_app, @Mr.p2K_two⟩, ⟨@Mr.mPar_app, @Mr.p3K_three⟩⟩⟩⟩, ⟨⟨⟨@Mr.mPar3_app, ⟨@Mr.stK_some, @Mr.mSub_app⟩⟩, ⟨⟨@Mr.auK_some, @Mr.nsK_some⟩, ⟨@Mr.mAug_app, @Mr.mRaise_app⟩⟩⟩, ⟨⟨@Mr.lpK_nx, ⟨@Mr.lpK_ct, @Mr.lpK_bk⟩⟩, ⟨⟨@Mr.lpK_rt, @Mr.lpK_ex⟩, ⟨@Mr.forV_nil, @Mr.mFor_app⟩⟩⟩⟩⟩, ⟨⟨⟨⟨@Mr.Pat.bd_nm, ⟨@Mr.bd_tp2, @Mr.bd_tp3⟩⟩, ⟨⟨@Mr.obind_some, @Mr.finK_rt⟩, ⟨@Mr.finK_nx, @Mr.finK_ex⟩⟩⟩, ⟨⟨@Mr.plains_nil, ⟨@Mr.plains_cons, @Mr.plain_int⟩⟩, ⟨⟨@Mr.plain_str, @Mr.plain_bl⟩, ⟨@Mr.plain_non, @Mr.plain_fl⟩⟩⟩⟩, ⟨⟨⟨@Mr.plain_sl, ⟨@Mr.plain_fd, @Mr.plain_ob⟩⟩, ⟨⟨@Mr.plain_ex, @Mr.plain_tup⟩, ⟨@Mr.NVF_v, @Mr.NVT_v⟩⟩⟩, ⟨⟨@Mr.NVT_n, ⟨@Mr.lcV_nil, @Mr.mYes_app⟩⟩, ⟨⟨@Mr.mIter_app, @Mr.itK_tup⟩, ⟨@Mr.itK_str, @Mr.itK_fl⟩⟩⟩⟩⟩⟩⟩, ⟨⟨⟨⟨⟨⟨@Mr.itK_sl, ⟨@Mr.mRng1_app, @Mr.mRng2_app⟩⟩, ⟨⟨@Mr.mEnum_app, @Mr.enK_fl⟩, ⟨@Mr.enK_sl, @Mr.mZip_app⟩⟩⟩, ⟨⟨@Mr.zpK_fl, ⟨@Mr.oAdd_int, @Mr.oAdd_ib⟩⟩, ⟨⟨@Mr.oAdd_str, @Mr.oAdd_fl⟩, ⟨@Mr.oSub_int, @Mr.oDiv_int⟩⟩⟩⟩, ⟨⟨⟨@Mr.oMod_int, ⟨@Mr.oPow_int, @Mr.oMul_int⟩⟩, ⟨⟨@Mr.oMul_str, @Mr.uNeg_int⟩, ⟨@Mr.oEq_int, @Mr.oNe_int⟩⟩⟩, ⟨⟨@Mr.oEq_str, ⟨@Mr.oNe_str, @Mr.oEq_bl⟩⟩, ⟨⟨@Mr.oNe_bl, @Mr.oEq_nil⟩, ⟨@Mr.oNe_nil, @Mr.oLt_int⟩⟩⟩⟩⟩, ⟨⟨⟨⟨@Mr.oLe_int, ⟨@Mr.oGt_int, @Mr.oGe_int⟩⟩, ⟨⟨@Mr.oIsN_non, @Mr.oNotN_non⟩, ⟨@Mr.isNon_non, @Mr.isNon_int⟩⟩⟩, ⟨⟨@Mr.isNon_str, ⟨@Mr.isNon_fl, @Mr.isNon_tup⟩⟩, ⟨⟨@Mr.oAug_int, @Mr.oAug_str⟩, ⟨@Mr.cLen_str, @Mr.cLen_fl⟩⟩⟩⟩, ⟨⟨⟨@Mr.cLen_sl, ⟨@Mr.cLen_tup, @Mr.cInt_int⟩⟩, ⟨⟨@Mr.cInt_bl, @Mr.cMin2_int⟩, ⟨@Mr.cMax2_int, @Mr.oIx_fl⟩⟩⟩, ⟨⟨@Mr.oIx_sl, ⟨@Mr.oIx_tup, @Mr.oIx_str⟩⟩, ⟨⟨@Mr.ix1_some, @Mr.tyC_str⟩, ⟨@Mr.tyC_fl, @Mr.oSl_str⟩⟩⟩⟩⟩⟩, ⟨⟨⟨⟨⟨@Mr.oSl_fl, ⟨@Mr.oSl_sl, @Mr.rng1_int⟩⟩, ⟨⟨@Mr.rng2_int, @Mr.isi_str_str⟩, ⟨@Mr.isi_int_int, @Mr.isi_bool_int⟩⟩⟩, ⟨⟨@Mr.isi_list_fl, ⟨@Mr.isi_tuple_tup, @Mr.cList_fl⟩⟩, ⟨⟨@Mr.mut_0, @Mr.mut_s⟩, ⟨@Mr.lst_0, @Mr.lst_s⟩⟩⟩⟩, ⟨⟨⟨@Mr.tyC_ref0, ⟨@Mr.tyC_ref1, @Mr.tyC_ref2⟩⟩, ⟨⟨@Mr.fAppend_ref, @Mr.apK_some⟩, ⟨@Mr.oIx_ref, @Mr.ixK_some⟩⟩⟩, ⟨⟨@Mr.stL_ref, ⟨@Mr.cLen_ref, @Mr.omap_some⟩⟩, ⟨⟨@Mr.oAdd_rf, @Mr.adK_some⟩, ⟨@Mr.AOp_lst, @Mr.mTestV_app⟩⟩⟩⟩⟩, ⟨⟨⟨⟨@Mr.tstV_tup, ⟨@Mr.tstV_bl, @Mr.mLRng1_app⟩⟩, ⟨⟨@Mr.uBits_int, @Mr.mDict0_app⟩, ⟨@Mr.mNew_app, @Mr.fldO_ob⟩⟩⟩, ⟨⟨@Mr.mSetF_app, ⟨@Mr.cListS_str, @Mr.cListS_fl⟩⟩, ⟨⟨@Mr.cTup_fl, @Mr.oEmp_fl⟩, ⟨@Mr.oIsB_bl, @Mr.oNotB_bl⟩⟩⟩⟩, ⟨⟨⟨@Mr.mRevL_app, ⟨@Mr.revN_fl, @Mr.mRng3_app⟩⟩, ⟨⟨@Mr.mStar_app, @Mr.seqOf_fl⟩, ⟨@Mr.seqOf_sl, @Mr.seqOf_tup⟩⟩⟩, ⟨⟨⟨@Mr.fLstripC_str, @Mr.fStarts_str⟩, ⟨@Mr.fFind_str, @Mr.fCountS_str⟩⟩, ⟨⟨@Mr.oSl_ref, @Mr.NVF_n⟩, ⟨@W.sS_len, @W.sS_app⟩⟩⟩⟩⟩⟩⟩⟩
end W

set_option Elab.async false
set_option linter.all false
set_option maxRecDepth 100000
set_option maxHeartbeats 1000000
namespace Mr
open PySem PySem.Spec PyProof.Rows L2
/-! ### methods of instances -/
section
variable {X : Cx} {k : Nat} {f C : Addr} {fd : FuncData} {ps : List Str} {sp : Sp} {dvs : List V} {ds : List Value} {W : WX} {m : Str} {apos pos : Pos} {e o : Expr} {es : List Expr} {ta : TE} {t : TA}
theorem pe_gmeth {pl : Sem Bool} (he : PE X o ta) (c : Cls X.K C) (hm : Meth X.K C m f) (F : FnG X.prog X.w X.K X.mg X.base (L2.CX X.prog X.w) k f fd ps sp) (hr : Room k X.A) (hG : X.A.guards = some []) (hb : Binds X.K fd ps ds) (hd : Vals dvs ds) (tk : Takes X W) (ha : PA X (e :: es) t)
    (hst : starEach (e :: es) X.env = (false, eval e X.env) :: starEach es X.env := by rfl) (hpl : (backTo pos (starEach es X.env)).any (·.1) = false := by rfl)
    (ht : eval (.Call (.Attribute o m apos) (e :: es) [] pos) X.env = (do
      let ov ← eval o X.env
      standAt apos.atName
      let (f, first) ← holding [ov] (getMethod ov m pl)
      callWith pos f first (backTo pos (starEach (e :: es) X.env)) (backToKw pos (keywordEach [] X.env))) := by rfl) :
    PE X (.Call (.Attribute o m apos) (e :: es) [] pos) (fun σ H Q => ta σ H fun x H1 => ∃ a dx fs, x = .ref a ∧ H1 a = some (.ins C dx fs) ∧ fs.lookup m = none ∧ t σ H1 fun vs H2 => sp (x :: (vs ++ dvs)) H2 Q fun cls d H' => W cls d σ H') := by
  refine ⟨fun pins s σ H Q I h => ?_⟩
  refine PySem.W.methodCall_KW (pl := pl) (thn (he.run pins s σ H _ I h) fun u s1 ⟨x, H1, I1, rx, a, dx, fs, ex, ea, l, q⟩ => ?_) ht
  subst ex
  obtain rfl : u = Value.ref a := rx
  refine getmeth_ok I1 ea c hm l ?_
  refine PySem.W.callWith_K (first := [.ref a]) (h₀ := X.base) I.ok.mod.kin hm.kp (thn (ha.run pos pins s1 σ H1 _ I1 q) fun us s2 ⟨vs, H2, I2, r, q2⟩ => ⟨I2.kIn, ?_⟩) hst hpl
  exact goes_fnS (ys := .ref a :: vs) (zs := .ref a :: us) F hr hG hb hd (passAt tk σ) I2 (.cons rfl r) q2
theorem pe_gmeth0 {pl : Sem Bool} (he : PE X o ta) (c : Cls X.K C) (hm : Meth X.K C m f) (F : FnG X.prog X.w X.K X.mg X.base (L2.CX X.prog X.w) k f fd ps sp) (hr : Room k X.A) (hG : X.A.guards = some []) (hb : Binds X.K fd ps ds) (hd : Vals dvs ds) (tk : Takes X W)
    (ht : eval (.Call (.Attribute o m apos) [] [] pos) X.env = (do
      let ov ← eval o X.env
      standAt apos.atName
      let (f, first) ← holding [ov] (getMethod ov m pl)
      callWith pos f first (backTo pos (starEach [] X.env)) (backToKw pos (keywordEach [] X.env))) := by rfl) :
    PE X (.Call (.Attribute o m apos) [] [] pos) (fun σ H Q => ta σ H fun x H1 => ∃ a dx fs, x = .ref a ∧ H1 a = some (.ins C dx fs) ∧ fs.lookup m = none ∧ sp (x :: dvs) H1 Q fun cls d H' => W cls d σ H') := by
  refine ⟨fun pins s σ H Q I h => ?_⟩
  refine PySem.W.methodCall_KW (pl := pl) (thn (he.run pins s σ H _ I h) fun u s1 ⟨x, H1, I1, rx, a, dx, fs, ex, ea, l, q⟩ => ?_) ht
  subst ex
  obtain rfl : u = Value.ref a := rx
  refine getmeth_ok I1 ea c hm l ?_
  exact PySem.W.callWith_K0 (first := [.ref a]) I1.kIn hm.kp (goes_fnS (ys := [.ref a]) (zs := [.ref a]) F hr hG hb hd (passAt tk σ) I1 (.cons rfl .nil) q)
end
/-- is an own instance without a field of that name -/
def isOb (c m : Str) (h : AH) (x : Val) : Bool := match obOf h x with
  | some (c', ns, _) => decide (c' = c) && !ns.contains m
  | none => false
def mMethO (c m : Str) (f : List Val → M Val) (dm : List Val) (mo : ME) (t : MA) : MN := fun sl => bnd (mo sl) fun o h => if isOb c m h o = true then bnd (t sl) (fun xs => pureN f (o :: (xs ++ dm))) h else .bad
section
variable {K : KK} {r : Rg} {h : AH} {H : Hp}
theorem look_none {f : Str} : ∀ {ns : List Str} {us : List V}, ns.contains f = false → (ns.zip us).lookup f = none
  | [], _, _ => by simp
  | n :: ns, [], _ => by simp
  | n :: ns, u :: us, hc => by
    rw [List.contains_cons, Bool.or_eq_false_iff] at hc
    rw [List.zip_cons_cons, List.lookup_cons, hc.1]
    exact look_none hc.2
theorem isOb_ok {c m : Str} {C : Addr} {x : Val} {u : V} (hC : K.ct c = some C) (R : Rel K r h H) (q : RV K r H x u) (e : isOb c m h x = true) : ∃ a dx fs, u = .ref a ∧ H a = some (.ins C dx fs) ∧ fs.lookup m = none := by
  unfold isOb at e
  cases q1 : obOf h x with
  | none => rw [q1] at e; cases e
  | some z =>
    obtain ⟨c', ns, vs⟩ := z
    rw [q1] at e
    dsimp only at e
    rw [Bool.and_eq_true] at e
    have ec : c' = c := of_decide_eq_true e.1
    subst ec
    obtain ⟨a, C', dx, us, e1, e2, e3, e4, e5⟩ := R.obj q q1
    rw [hC] at e2
    cases e2
    exact ⟨a, dx, _, e1, e3, look_none (by simpa using e.2)⟩
end
section
variable {X : Cx} {W : WX} {k n : Nat} {f C : Addr} {fd : FuncData} {ps : List Str} {c m : Str} {apos pos : Pos} {o e : Expr} {es : List Expr} {mo : ME} {mt : MA} {size : Nat} {b : MS} {dvs : List V} {dm : List Val} {pl : Sem Bool}
theorem sn_methO (F : FnG X.prog X.w X.K X.mg X.base (L2.CX X.prog X.w) k f fd ps (spM X.kk (mFn n size b) n)) (tk : Takes X W) (hr : Room k X.A) (hG : X.A.guards = some []) (cl : Cls X.K C) (hm : Meth X.K C m f) (hC : X.kk.ct c = some C) (hb : ∃ ds, Vals dvs ds ∧ Binds X.K fd ps ds) (hdm : ∀ r H, RVs X.kk r H dm dvs) (ho : SE X W o mo) (ha : SA X W (e :: es) mt)
    (hst : starEach (e :: es) X.env = (false, eval e X.env) :: starEach es X.env := by rfl) (hpl : (backTo pos (starEach es X.env)).any (·.1) = false := by rfl)
    (ht : eval (.Call (.Attribute o m apos) (e :: es) [] pos) X.env = (do
      let ov ← eval o X.env
      standAt apos.atName
      let (f, first) ← holding [ov] (getMethod ov m pl)
      callWith pos f first (backTo pos (starEach (e :: es) X.env)) (backToKw pos (keywordEach [] X.env))) := by rfl) :
    SN X W (.Call (.Attribute o m apos) (e :: es) [] pos) (mMethO c m (mFn n size b) dm mo mt) := by
  obtain ⟨ds, hd, hb⟩ := hb
  refine PE.imp (pe_gmeth ho cl hm F hr hG hb hd tk ha hst hpl ht) fun σ H Q ⟨r, h, sl, R, S, o⟩ => ?_
  refine ⟨r, h, sl, R, S, o.split.mono fun x r1 h1 H1 g1 R1 o1 u q1 => ?_⟩
  split at o1
  · rename_i hi
    obtain ⟨a, dx, fs, e1, e2, e3⟩ := isOb_ok hC R1 q1 hi
    refine ⟨a, dx, fs, e1, e2, e3, r1, h1, sl, R1, S.go g1, o1.split.mono fun xs r2 h2 H2 g2 R2 o2 us q2 => ?_⟩
    exact pureN_ok (fun xs h e => mFn_n e) R2 (.cons (RV.go g2 q1) (q2.append (hdm r2 H2))) (o2.mono fun z r3 h3 H3 g3 R3 k => k.base (g1.trans g2) R2)
  · exact o1.elim
theorem sn_methO0 (F : FnG X.prog X.w X.K X.mg X.base (L2.CX X.prog X.w) k f fd ps (spM X.kk (mFn n size b) n)) (tk : Takes X W) (hr : Room k X.A) (hG : X.A.guards = some []) (cl : Cls X.K C) (hm : Meth X.K C m f) (hC : X.kk.ct c = some C) (hb : ∃ ds, Vals dvs ds ∧ Binds X.K fd ps ds) (hdm : ∀ r H, RVs X.kk r H dm dvs) (ho : SE X W o mo)
    (ht : eval (.Call (.Attribute o m apos) [] [] pos) X.env = (do
      let ov ← eval o X.env
      standAt apos.atName
      let (f, first) ← holding [ov] (getMethod ov m pl)
      callWith pos f first (backTo pos (starEach [] X.env)) (backToKw pos (keywordEach [] X.env))) := by rfl) :
    SN X W (.Call (.Attribute o m apos) [] [] pos) (mMethO c m (mFn n size b) dm mo mNil) := by
  obtain ⟨ds, hd, hb⟩ := hb
  refine PE.imp (pe_gmeth0 ho cl hm F hr hG hb hd tk ht) fun σ H Q ⟨r, h, sl, R, S, o⟩ => ?_
  refine ⟨r, h, sl, R, S, o.split.mono fun x r1 h1 H1 g1 R1 o1 u q1 => ?_⟩
  split at o1
  · rename_i hi
    obtain ⟨a, dx, fs, e1, e2, e3⟩ := isOb_ok hC R1 q1 hi
    refine ⟨a, dx, fs, e1, e2, e3, ?_⟩
    exact pureN_ok (fun xs h e => mFn_n e) R1 (.cons q1 (hdm r1 H1)) ((o1.split.now R1).mono fun z r3 h3 H3 g3 R3 k => k.base g1 R1)
  · exact o1.elim
end
/-! ### dicts whose keys are ints or texts -/
def keyOf : Val → Option Key
  | .int i => some (.inl i)
  | .str x => some (.inr x)
  | _ => none
theorem keyOf_ok {K : KK} {r : Rg} {H : Hp} {x : Val} {u : V} {k : Key} (q : RV K r H x u) (e : keyOf x = some k) : u = kV k := by
  cases q <;> first | (cases e; done) | skip
  · cases e; rfl
  · cases e; rfl
def dkOf (h : AH) : Val → Option (List Key × List Val)
  | .fd ks vs => some (ks, vs)
  | .ref n => match h[n]? with
    | some (.dk ks vs) => some (ks, vs)
    | some (.fz (.fd ks vs)) => some (ks, vs)
    | _ => none
  | _ => none
def valA (kv : List (Key × Val)) (k : Key) : Option Val := (kv.find? fun p => decide (p.1 = k)).map (·.2)
section
variable {K : KK} {r : Rg} {h : AH} {H : Hp}
theorem Rel.dct {x : Val} {u : V} {ks : List Key} {vs : List Val} (R : Rel K r h H) (q : RV K r H x u) (e : dkOf h x = some (ks, vs)) :
    ∃ a us, u = .ref a ∧ H a = some (.dK (ks.zip us)) ∧ ks.length = us.length ∧ RVs K r H vs us := by
  cases q with
  | fd z e1 hl t =>
    cases e
    exact ⟨_, _, rfl, e1, hl, RVs.up t⟩
  | @ref _ _ n a ea =>
    unfold dkOf at e
    dsimp only at e
    split at e
    · rename_i q1
      cases e
      obtain ⟨us, f1, f2, f3⟩ := R.ob n a _ ea q1
      exact ⟨a, us, rfl, f1, f2, f3⟩
    · rename_i q1
      cases e
      have q2 : RV K r.lo H (.fd ks vs) (.ref a) := R.ob n a _ ea q1
      cases q2 with
      | fd z e1 hl t => exact ⟨_, _, rfl, e1, hl, RVs.up t⟩
    · cases e
  | _ => cases e
theorem valA_ok : ∀ {ks : List Key} {vs : List Val} {us : List V} {k : Key}, ks.length = us.length → RVs K r H vs us → (valV (ks.zip us) k).isSome = (valA (ks.zip vs) k).isSome ∧ ∀ v, valA (ks.zip vs) k = some v → ∃ u, valV (ks.zip us) k = some u ∧ RV K r H v u
  | [], _, _, _, _, _ => ⟨rfl, fun v e => by cases e⟩
  | j :: ks, [], us, k, hl, t => by cases t; cases hl
  | j :: ks, v :: vs, us, k, hl, t => by
    cases t with
    | @cons _ _ _ u _ us a b =>
      rw [List.zip_cons_cons, List.zip_cons_cons]
      have ih := valA_ok (k := k) (Nat.succ.inj hl) b
      by_cases hj : j = k
      · have e1 : valV ((j, u) :: ks.zip us) k = some u := valV_pos hj
        have e2 : valA ((j, v) :: ks.zip vs) k = some v := by unfold valA; rw [List.find?_cons, decide_eq_true hj]; rfl
        exact ⟨by rw [e1, e2]; rfl, fun w e => by rw [e2] at e; cases e; exact ⟨u, e1, a⟩⟩
      · have e1 : valV ((j, u) :: ks.zip us) k = valV (ks.zip us) k := valV_neg hj
        have e2 : valA ((j, v) :: ks.zip vs) k = valA (ks.zip vs) k := by unfold valA; rw [List.find?_cons, decide_eq_false hj]
        rw [e1, e2]
        exact ih
end
def oDIx (x y : Val) (h : AH) : Option Val := match dkOf h x, keyOf y with
  | some (ks, vs), some k => valA (ks.zip vs) k
  | _, _ => none
def oDIn (y x : Val) (h : AH) : Option Val := match dkOf h x, keyOf y with
  | some (ks, vs), some k => some (.bl (valA (ks.zip vs) k).isSome)
  | _, _ => none
def oDNotIn (y x : Val) (h : AH) : Option Val := match dkOf h x, keyOf y with
  | some (ks, vs), some k => some (.bl (!(valA (ks.zip vs) k).isSome))
  | _, _ => none
def rDIx : R2 := fun x y H Q => ∃ a v, x = .ref a ∧ DGet H a y (some v) ∧ Q v H
def rDIn : R2 := fun y x H Q => ∃ a o, x = .ref a ∧ DGet H a y o ∧ Q (.bl o.isSome) H
def rDNotIn : R2 := fun y x H Q => ∃ a o, x = .ref a ∧ DGet H a y o ∧ Q (.bl (!o.isSome)) H
section
variable {K : KK}
theorem om_dix : OpM K rDIx oDIx := by
  intro r h H x y u w z Q R qx qy e k
  unfold oDIx at e
  split at e
  · rename_i ks vs j q1 q2
    obtain ⟨a, us, rfl, e1, hl, t⟩ := R.dct qx q1
    obtain ⟨h1, h2⟩ := valA_ok (k := j) hl t
    obtain ⟨v, f1, f2⟩ := h2 z e
    have ew := keyOf_ok qy q2
    subst ew
    exact ⟨a, v, rfl, by rw [← f1]; exact DGet.k e1, now k R f2⟩
  · cases e
theorem om_din : OpM K rDIn oDIn := by
  intro r h H x y u w z Q R qx qy e k
  unfold oDIn at e
  split at e
  · rename_i ks vs j q1 q2
    cases e
    obtain ⟨a, us, rfl, e1, hl, t⟩ := R.dct qy q1
    obtain ⟨h1, h2⟩ := valA_ok (k := j) hl t
    have ew := keyOf_ok qx q2
    subst ew
    exact ⟨a, _, rfl, DGet.k e1, by rw [h1]; exact now k R (.bl _)⟩
  · cases e
theorem om_dnotin : OpM K rDNotIn oDNotIn := by
  intro r h H x y u w z Q R qx qy e k
  unfold oDNotIn at e
  split at e
  · rename_i ks vs j q1 q2
    cases e
    obtain ⟨a, us, rfl, e1, hl, t⟩ := R.dct qy q1
    obtain ⟨h1, h2⟩ := valA_ok (k := j) hl t
    have ew := keyOf_ok qx q2
    subst ew
    exact ⟨a, _, rfl, DGet.k e1, by rw [h1]; exact now k R (.bl _)⟩
  · cases e
end
theorem room_u {k : Nat} {A : Around} (hr : Room k A) : A.units + 1 < cLine := by
  have := hr.un
  omega
section
variable {X : Cx} {W : WX} {a b : Expr} {ma mb : ME} {pos : Pos} {k : Nat}
theorem op_din (hr : Room k X.A) : OpR X (compareOp .In) rDIn := fun pins s σ H x y v u Q I rx ry ⟨a, o, ey, g, q⟩ => by
  subst ey
  obtain rfl : u = Value.ref a := ry
  exact d_in (room_u hr) I g rx fun s3 I3 => ⟨.bl o.isSome, H, I3, rfl, q⟩
theorem op_dnotin (hr : Room k X.A) : OpR X (compareOp .NotIn) rDNotIn := fun pins s σ H x y v u Q I rx ry ⟨a, o, ey, g, q⟩ => by
  subst ey
  obtain rfl : u = Value.ref a := ry
  exact d_notIn (room_u hr) I g rx fun s3 I3 => ⟨.bl (!o.isSome), H, I3, rfl, q⟩
theorem se_dix (hr : Room k X.A) (ha : SE X W a ma) (hb : SE X W b mb) (hs : NoSl b := by exact fun _ _ => rfl) : SE X W (.Subscript a b pos) (mOp oDIx ma mb) :=
  PE.imp (pe_dget (room_u hr) ha hb hs) fun s H Q z => by
    obtain ⟨r, h, sl, R, S, o1⟩ := z
    refine ⟨r, h, sl, R, S, o1.split.mono fun x r1 h1 H1 g1 R1 o2 u q1 => ⟨r1, h1, sl, R1, S.go g1, o2.split.mono fun y r2 h2 H2 g2 R2 o3 w q2 => ?_⟩⟩
    obtain ⟨v, e, k⟩ := o3.lft
    exact om_dix r2 h2 H2 x y u w v Q R2 (q1.go g2) q2 e k
theorem se_din (hr : Room k X.A) (ha : SE X W a ma) (hb : SE X W b mb) (hm : behindInMarks .In b = false := by rfl) : SE X W (.Compare a [.In] [b] pos) (mOp oDIn ma mb) := se_cmp (op_din hr) om_din ha hb hm
theorem st_din (hr : Room k X.A) (ha : SE X W a ma) (hb : SE X W b mb) (hm : behindInMarks .In b = false := by rfl) : ST X W (.Compare a [.In] [b] pos) (mTest (mOp oDIn ma mb)) := st_cmp (op_din hr) om_din ha hb hm
theorem se_dnotin (hr : Room k X.A) (ha : SE X W a ma) (hb : SE X W b mb) (hm : behindInMarks .NotIn b = false := by rfl) : SE X W (.Compare a [.NotIn] [b] pos) (mOp oDNotIn ma mb) := se_cmp (op_dnotin hr) om_dnotin ha hb hm
theorem st_dnotin (hr : Room k X.A) (ha : SE X W a ma) (hb : SE X W b mb) (hm : behindInMarks .NotIn b = false := by rfl) : ST X W (.Compare a [.NotIn] [b] pos) (mTest (mOp oDNotIn ma mb)) := st_cmp (op_dnotin hr) om_dnotin ha hb hm
end
end Mr

set_option Elab.async false
set_option linter.all false
set_option maxRecDepth 100000
set_option maxHeartbeats 1000000
namespace Mr
open PySem PySem.Spec PyProof.Rows L2
/-! ### dict comprehensions -/
def putA (kv : List (Key × Val)) (k : Key) (v : Val) : List (Key × Val) := if (kv.any fun p => decide (p.1 = k)) = true then kv.map (fun p => if p.1 = k then (p.1, v) else p) else kv ++ [(k, v)]
inductive DPs (K : KK) (r : Rg) (H : Hp) : List (Key × Val) → List (Key × V) → Prop
  | nil : DPs K r H [] []
  | cons {k : Key} {v : Val} {u : V} {kv : List (Key × Val)} {ku : List (Key × V)} : RV K r H v u → DPs K r H kv ku → DPs K r H ((k, v) :: kv) ((k, u) :: ku)
section
variable {K : KK} {r r' : Rg} {H H' : Hp}
theorem DPs.vo (g : Vo r H r' H') : ∀ {kv : List (Key × Val)} {ku : List (Key × V)}, DPs K r H kv ku → DPs K r' H' kv ku
  | _, _, .nil => .nil
  | _, _, .cons a b => .cons (RV.vo g a) (DPs.vo g b)
theorem DPs.any {k : Key} : ∀ {kv : List (Key × Val)} {ku : List (Key × V)}, DPs K r H kv ku → (kv.any fun p => decide (p.1 = k)) = (ku.any fun p => decide (p.1 = k))
  | _, _, .nil => rfl
  | _, _, .cons a b => by rw [List.any_cons, List.any_cons, b.any]
theorem DPs.snoc {k : Key} {v : Val} {u : V} (q : RV K r H v u) : ∀ {kv : List (Key × Val)} {ku : List (Key × V)}, DPs K r H kv ku → DPs K r H (kv ++ [(k, v)]) (ku ++ [(k, u)])
  | _, _, .nil => .cons q .nil
  | _, _, .cons a b => .cons a (b.snoc q)
theorem DPs.repl {k : Key} {v : Val} {u : V} (q : RV K r H v u) : ∀ {kv : List (Key × Val)} {ku : List (Key × V)}, DPs K r H kv ku → DPs K r H (kv.map fun p => if p.1 = k then (p.1, v) else p) (ku.map fun p => if p.1 = k then (p.1, u) else p)
  | _, _, .nil => .nil
  | _, _, .cons (k := j) a b => by
    rw [List.map_cons, List.map_cons]
    by_cases hj : j = k
    · rw [if_pos hj, if_pos hj]; exact .cons q (b.repl q)
    · rw [if_neg hj, if_neg hj]; exact .cons a (b.repl q)
theorem DPs.put {k : Key} {v : Val} {u : V} (q : RV K r H v u) {kv : List (Key × Val)} {ku : List (Key × V)} (d : DPs K r H kv ku) : DPs K r H (putA kv k v) (putK ku k u) := by
  unfold putA putK
  rw [d.any (k := k)]
  split
  · exact d.repl q
  · exact d.snoc q
theorem DPs.len : ∀ {kv : List (Key × Val)} {ku : List (Key × V)}, DPs K r H kv ku → ku.length = kv.length
  | _, _, .nil => rfl
  | _, _, .cons a b => by rw [List.length_cons, List.length_cons, b.len]
theorem DPs.split : ∀ {kv : List (Key × Val)} {ku : List (Key × V)}, DPs K r H kv ku → ku = (kv.map (·.1)).zip (ku.map (·.2)) ∧ RVs K r H (kv.map (·.2)) (ku.map (·.2))
  | _, _, .nil => ⟨rfl, .nil⟩
  | _, _, .cons a b => by
    obtain ⟨h1, h2⟩ := b.split
    refine ⟨?_, .cons a h2⟩
    rw [List.map_cons, List.map_cons, List.zip_cons_cons, ← h1]
theorem vo_looseK {r : Rg} {H : Hp} {D : Addr} {us : List (Key × V)} {o' : HO} (e : H D = some (.dK us)) (n : ¬ r.fz D) : Vo r H r (upd H D o') := by
  refine ⟨fun _ _ e => e, ⟨fun b xs q => ?_, fun b o w q => ?_, fun b xs q => ?_, fun b o w q => ?_⟩, fun _ z => z, fun b o z q => ?_⟩
  · have ne : b ≠ D := fun z => by subst z; rw [e] at q; cases q
    rw [upd_ne ne]; exact q
  · have ne : b ≠ D := fun z => by subst z; rw [e] at q; cases q
    rw [upd_ne ne]; exact q
  · have ne : b ≠ D := fun z => by subst z; rw [e] at q; cases q
    rw [upd_ne ne]; exact q
  · have ne : b ≠ D := fun z => by
      subst z
      rw [e] at q
      have q2 := Option.some.inj q
      unfold exk at q2
      cases q2
    rw [upd_ne ne]; exact q
  · have ne : b ≠ D := fun y => n (y ▸ z)
    rw [upd_ne ne]; exact q
theorem Rel.looseK {r : Rg} {h : AH} {H : Hp} {D : Addr} {us : List (Key × V)} {o' : HO} (R : Rel K r h H) (e : H D = some (.dK us)) (n1 : D ∉ r.m) (n : ¬ r.fz D) : Rel K r h (upd H D o') := by
  have some_ : ∀ b, (∃ w, H b = some w) → ∃ w, upd H D o' b = some w := fun b ⟨w, hw⟩ => by
    by_cases hb : b = D
    · exact ⟨_, by rw [hb, upd_same]⟩
    · exact ⟨w, by rw [upd_ne hb]; exact hw⟩
  refine ⟨R.len, R.nd, fun i a o e1 e2 => (R.ob i a o e1 e2).go (vo_looseK e n) fun _ => upd_ne fun z => n1 (z ▸ List.mem_of_getElem? e1), R.mz, fun b z => some_ b (R.fd b z), fun b z => some_ b (R.md b z)⟩
end
def dcV (p : Pat) (t : MT) (ek ev : ME) (sl : Sl) : List Val → List (Key × Val) → M (List (Key × Val))
  | [], acc => ret acc
  | v :: vs, acc => match p.bd v sl with
    | none => fail
    | some sl1 => bnd (nX (t sl1)) fun b => if b = true then bnd (nX (ek sl1)) fun y => bnd (nX (ev sl1)) fun z => (match keyOf y with
      | some k => if sizeOk (acc.length + 1) then dcV p t ek ev sl vs (putA acc k z) else fail
      | none => fail) else dcV p t ek ev sl vs acc
def fdOf (kv : List (Key × Val)) : M Val := fun h => if plains (kv.map (·.2)) then .ok (.fd (kv.map (·.1)) (kv.map (·.2))) h else .bad
def mDc (m : MI) (p : Pat) (t : MT) (ek ev : ME) (own : List Nat) : ME := fun sl => bnd (m sl) fun xs => bnd (dcV p t ek ev (wipeM sl own) xs []) fdOf
section
variable {K : KK} {W : WX}
theorem mDc_run {mi : MI} {p : Pat} {t : MT} {ek ev : ME} {own : List Nat} (hn : ∀ i ∈ p.names, i ∈ own) {s : L2.St} {H : Hp} {Q : VK} (z : tE K W (mDc mi p t ek ev own) s H Q) : tDc (tI K W mi) (p.tg K) (tT K W0 t) (tE K W0 ek) (tE K W0 ev) own s H Q := by
  obtain ⟨r, h, sl, R, S, o⟩ := z
  refine ⟨r, h, sl, R, S, o.split.mono fun xs r1 h1 H1 g1 R1 o1 J iT D nD => ?_⟩
  have nz : ¬ r1.fz D := fun z => by obtain ⟨u, e⟩ := R1.fd D z; rw [nD] at e; cases e
  have nm : D ∉ r1.m := fun z => by obtain ⟨u, e⟩ := R1.md D z; rw [nD] at e; cases e
  refine ⟨fun i n H' => n = (xs.drop i).length ∧ ∃ r h acc us, Rel K r h H' ∧ Go r1 H1 r H' ∧ H' D = some (.dK us) ∧ D ∉ r.m ∧ ¬ r.fz D ∧ DPs K r H' acc us ∧
    Out K r1 H1 (bnd (dcV p t ek ev (wipeM sl own) (xs.drop i) acc) fdOf h) (fun v r' h' H' => ∀ u, RV K r' H' v u → Q u H') (fun cls d H' => W cls d s H'),
    ⟨_, rfl, r1, h1, [], [], R1.newu nD, go_new nD, upd_same, nm, nz, .nil, o1⟩, ?_⟩
  rintro i n H2 ⟨rfl, r2, h2, acc, us, R2, g2, hD, n1, n2, qa, o2⟩
  obtain ⟨i1, i2⟩ := iT r2 h2 H2 i g2.toVo R2
  cases q1 : xs.drop i with
  | nil =>
    rw [q1] at o2
    refine .inl ⟨i1 (drop_nil q1), ?_⟩
    have o3 : Out K r1 H1 (fdOf acc h2) (fun v r' h' H' => ∀ u, RV K r' H' v u → Q u H') (fun cls d H' => W cls d s H') := o2
    unfold fdOf at o3
    split at o3
    · rename_i hp
      obtain ⟨s1, s2⟩ := qa.split
      have hD' : H2 D = some (.dK ((acc.map (·.1)).zip (us.map (·.2)))) := by rw [← s1]; exact hD
      refine o3 (r2.ice D) H2 (go_iceN g2 nD) (R2.ice n1 ⟨_, hD⟩) _ (.fd (.inr rfl) hD' (by rw [List.length_map, List.length_map, qa.len]) ?_)
      exact RVs.vo (vo_ice (r := r2.lo)) (s2.low hp)
    · exact o3.elim
  | cons v vs =>
    obtain ⟨ev', evs⟩ := drop_cons q1
    rw [q1] at o2
    obtain ⟨j1, j2⟩ := i2 v ev'
    refine .inr ⟨j1, fun H' => ∃ r h acc us, Rel K r h H' ∧ Go r1 H1 r H' ∧ H' D = some (.dK us) ∧ D ∉ r.m ∧ ¬ r.fz D ∧ DPs K r H' acc us ∧
      Out K r1 H1 (bnd (dcV p t ek ev (wipeM sl own) (xs.drop (i + 1)) acc) fdOf h) (fun v r' h' H' => ∀ u, RV K r' H' v u → Q u H') (fun cls d H' => W cls d s H'), fun H' z => ⟨_, by rw [← evs]; exact Nat.lt_succ_self _, rfl, z⟩, fun x H' y => ?_⟩
    obtain ⟨k2, R3, q2⟩ := j2 x H' y
    unfold dcV at o2
    cases q3 : p.bd v (wipeM sl own) with
    | none => rw [q3] at o2; exact o2.elim
    | some sl1 =>
      rw [q3] at o2
      dsimp only at o2
      have g3 := g2.trans k2
      obtain ⟨s', S', w', kk⟩ := Pat.run p q2 ((S.go (g1.trans g3)).wipe own) q3
      -- the unknown dict stays
      have stay : ∀ {r r' : Rg} {H H' : Hp}, Go r H r' H' → H D = some (.dK us) → D ∉ r.m → ¬ r.fz D → H' D = some (.dK us) ∧ D ∉ r'.m ∧ ¬ r'.fz D := fun {r r' H H'} g e a b =>
        ⟨g.fr D _ e a, fun z => (g.nw D z).elim a (fun y => by rw [e] at y; cases y), fun z => (g.fn D z).elim b (fun y => y.elim a (fun y => by rw [e] at y; cases y))⟩
      obtain ⟨hD3, n13, n23⟩ := stay k2 hD n1 n2
      refine kk _ ⟨by rw [w' own hn]; exact wipe_idem s own, r2, h2, sl1, R3, S', ?_⟩
      have o3 : Out K r1 H1 (bnd (nX (t sl1)) (fun b => bnd (if b = true then bnd (nX (ek sl1)) fun y => bnd (nX (ev sl1)) fun z => (match keyOf y with
        | some k => if sizeOk (acc.length + 1) then dcV p t ek ev (wipeM sl own) vs (putA acc k z) else fail
        | none => fail) else dcV p t ek ev (wipeM sl own) vs acc) fdOf) h2) (fun v r' h' H' => ∀ u, RV K r' H' v u → Q u H') (fun cls d H' => W cls d s H') := by
        have e0 : bnd (bnd (nX (t sl1)) fun b => if b = true then bnd (nX (ek sl1)) fun y => bnd (nX (ev sl1)) fun z => (match keyOf y with
          | some k => if sizeOk (acc.length + 1) then dcV p t ek ev (wipeM sl own) vs (putA acc k z) else fail
          | none => fail) else dcV p t ek ev (wipeM sl own) vs acc) fdOf h2 = bnd (nX (t sl1)) (fun b => bnd (if b = true then bnd (nX (ek sl1)) fun y => bnd (nX (ev sl1)) fun z => (match keyOf y with
          | some k => if sizeOk (acc.length + 1) then dcV p t ek ev (wipeM sl own) vs (putA acc k z) else fail
          | none => fail) else dcV p t ek ev (wipeM sl own) vs acc) fdOf) h2 := by
          unfold bnd
          cases nX (t sl1) h2 <;> rfl
        rw [← e0]
        exact o2
      refine (Out.keep o3 g3).nX.mono fun b r4 h4 H4 g4 R4 o4 => ?_
      obtain ⟨hD4, n14, n24⟩ := stay g4 hD3 n13 n23
      have qa4 := qa.vo (k2.trans g4).toVo
      cases b with
      | false => exact iteF ⟨r4, h4, acc, us, R4, g3.trans g4, hD4, n14, n24, qa4, by rw [← evs]; exact o4⟩
      | true =>
        refine iteT ⟨r4, h4, sl1, R4, S'.go g4, ?_⟩
        rw [if_pos rfl] at o4
        have o5 : Out K r1 H1 (bnd (nX (ek sl1)) (fun y => bnd (bnd (nX (ev sl1)) fun z => (match keyOf y with
          | some k => if sizeOk (acc.length + 1) then dcV p t ek ev (wipeM sl own) vs (putA acc k z) else fail
          | none => fail)) fdOf) h4) (fun v r' h' H' => ∀ u, RV K r' H' v u → Q u H') (fun cls d H' => W cls d s H') := by
          have e0 : bnd (bnd (nX (ek sl1)) fun y => bnd (nX (ev sl1)) fun z => (match keyOf y with
            | some k => if sizeOk (acc.length + 1) then dcV p t ek ev (wipeM sl own) vs (putA acc k z) else fail
            | none => fail)) fdOf h4 = bnd (nX (ek sl1)) (fun y => bnd (bnd (nX (ev sl1)) fun z => (match keyOf y with
            | some k => if sizeOk (acc.length + 1) then dcV p t ek ev (wipeM sl own) vs (putA acc k z) else fail
            | none => fail)) fdOf) h4 := by
            unfold bnd
            cases nX (ek sl1) h4 <;> rfl
          rw [← e0]
          exact o4
        refine (Out.keep o5 (g3.trans g4)).nX.mono fun y r5 h5 H5 g5 R5 o6 u q5 => ?_
        obtain ⟨hD5, n15, n25⟩ := stay g5 hD4 n14 n24
        refine ⟨r5, h5, sl1, R5, (S'.go g4).go g5, ?_⟩
        have o7 : Out K r1 H1 (bnd (nX (ev sl1)) (fun z => bnd (match keyOf y with
          | some k => if sizeOk (acc.length + 1) then dcV p t ek ev (wipeM sl own) vs (putA acc k z) else fail
          | none => fail) fdOf) h5) (fun v r' h' H' => ∀ u, RV K r' H' v u → Q u H') (fun cls d H' => W cls d s H') := by
          have e0 : bnd (bnd (nX (ev sl1)) fun z => (match keyOf y with
            | some k => if sizeOk (acc.length + 1) then dcV p t ek ev (wipeM sl own) vs (putA acc k z) else fail
            | none => fail)) fdOf h5 = bnd (nX (ev sl1)) (fun z => bnd (match keyOf y with
            | some k => if sizeOk (acc.length + 1) then dcV p t ek ev (wipeM sl own) vs (putA acc k z) else fail
            | none => fail) fdOf) h5 := by
            unfold bnd
            cases nX (ev sl1) h5 <;> rfl
          rw [← e0]
          exact o6
        refine (Out.keep o7 (g3.trans (g4.trans g5))).nX.mono fun z r6 h6 H6 g6 R6 o8 w q6 => ?_
        obtain ⟨hD6, n16, n26⟩ := stay g6 hD5 n15 n25
        cases q7 : keyOf y with
        | none => rw [q7] at o8; exact o8.elim
        | some k =>
          rw [q7] at o8
          dsimp only at o8
          split at o8
          · rename_i hs
            have vl : Vo r6 H6 r6 (upd H6 D (.dK (putK us k w))) := vo_looseK hD6 n26
            refine ⟨us, k, keyOf_ok q5 q7, hD6, ?_, r6, h6, putA acc k z, putK us k w, R6.looseK hD6 n16 n26, (g3.trans (g4.trans (g5.trans g6))).loose nD nz, upd_same, n16, n26, ?_, by rw [← evs]; exact o8⟩
            · have := sizeOk_le hs
              rw [qa4.len]
              omega
            · exact (((qa4.vo g5.toVo).vo g6.toVo).vo vl).put (RV.vo vl q6)
          · exact o8.elim
end
section
variable {X : Cx} {W : WX}
theorem se_dc {kx vx tg iter : Expr} {ifs : List Expr} {scope : Scope} {own : List (Str × Nat)} {pos : Pos} {mi : MI} {p : Pat} {t : MT} {ek ev : ME} (hc : X.calm = true) (hN : X.N.Nodup) (hi : SI X W tg iter mi) (ok : BlkOk X.N X.env.scope scope own)
    (hg : ∀ (s : Shared) (H : Hp) (C : Addr) (cl : List (Str × Addr)) (fp : List Addr), SG (X.blk s H scope (compEnvC scope cl C X.env) fp) tg p) (ht : ∀ (s : Shared) (H : Hp) (C : Addr) (cl : List (Str × Addr)) (fp : List Addr), STs (X.blk s H scope (compEnvC scope cl C X.env) fp) W0 ifs t)
    (hk : ∀ (s : Shared) (H : Hp) (C : Addr) (cl : List (Str × Addr)) (fp : List Addr), SE (X.blk s H scope (compEnvC scope cl C X.env) fp) W0 kx ek)
    (he : ∀ (s : Shared) (H : Hp) (C : Addr) (cl : List (Str × Addr)) (fp : List Addr), SE (X.blk s H scope (compEnvC scope cl C X.env) fp) W0 vx ev) (hn : ∀ i ∈ p.names, i ∈ own.map (·.2) := by decide) (hs : ∀ x, foldedSetIterable iter X.env x = pure x := by intro _; rfl) :
    SE X W (.DictComp kx vx [⟨tg, iter, ifs, 0⟩] scope pos) (mDc mi p t ek ev (own.map (·.2))) :=
  PE.imp (pe_dc hc hN hi ok hg ht hk he hs) fun _ _ _ z => mDc_run hn z
end
end Mr

set_option Elab.async false
set_option linter.all false
set_option maxRecDepth 100000
set_option maxHeartbeats 1000000
namespace HNe
open PySem PySem.Spec PyProof.Rows PySem.SeqAt PySem.W
section
variable {M : Model} {prog : Program} {w : World} {A : Around} {E : Value → Shared → Prop} {s : Shared} {K : PySem.W.Frag} {x C f L : Addr} {b : Value} {ox : Obj} {od : Option Obj} {h₀ : Heap} {m : Str → Option Value} {tb : Value}
theorem entry_neV (X : K.In s.heap) (I : InstAt s.heap x ox C od) (hu : A.units < cLine) (he : findIn K (.ref C) "__eq__" = some (some (.ref f))) (hf : isFn K (.ref f) = true) {Q : Fin → Shared → Prop}
    (hcall : wpAny M A (call (.ref f) [.ref x, b]) (fun v s' => ∃ b, v = .bool b ∧ Q (.done (.ret (.bool (!b)))) s') E s) :
    wpAny M A (Builtin.«object.__ne__» ⟨[.ref x, b], []⟩) Q E s := by
  unfold Builtin.«object.__ne__»
  repeat (first
    | with_reducible refine wpAny_cRoomFor hu ?_
    | (refine wpAny_bind (m := callSpecialIfBound? (.ref x) (Str.ofString "__eq__") [b])
        (ifBound_K X I he hf (wpAny_mono hcall (fun r s' hr => by
          obtain ⟨b, rfl, hq⟩ := hr
          repeat (first | exact hq | exact wpAny_pure hq | exact wpAny_truthy_bool hq | (refine wpAny_bind (m := truthy (.bool _)) (wpAny_truthy_bool ?_)) | wp_step)) fun _ _ e => e)))
    | wp_step)
theorem call_objNeV {Q : Value → Shared → Prop} (X : K.In s.heap) (I : InstAt s.heap x ox C od) (hu : A.units + 1 < cLine) (hm : mroIn K C (.type "object") = some true) (he : findIn K (.ref C) "__eq__" = some (some (.ref f))) (hf : isFn K (.ref f) = true)
    (hcall : wpAny (model prog w) A.in1 (call (.ref f) [.ref x, b]) (fun v s' => ∃ b, v = .bool b ∧ Q (.bool (!b)) s') E s) :
    wpAny (model prog w) A (call (.builtin "object.__ne__") [.ref x, b]) Q E s :=
  wpAny_call (codeAny_call_builtin F.cmp_object.ne.plain F.cmpEntry_ne (check_slot F.cmpKind_ne F.cmpSplit_ne (I.type.andThen (looks_mroIn X hm)) (F.cmpArgs_ne _ _) (entry_neV (A := A.in1) X I hu he hf hcall)))
theorem ne_KV {Q : Value → Shared → Prop} (hu : A.units + 1 < cLine) (X : K.In s.heap) (I : InstAt s.heap x ox C od) (hb : Looks (model prog w) s.heap (typeOf b) tb) (hn : notFirst K C tb = true)
    (hs : findIn K (.ref C) "__ne__" = some (some (.builtin "object.__ne__"))) (hm : mroIn K C (.type "object") = some true) (he : findIn K (.ref C) "__eq__" = some (some (.ref f))) (hf : isFn K (.ref f) = true)
    (h : wpAny (model prog w) A.in1 (call (.ref f) [.ref x, b]) (fun v s' => ∃ r, v = .bool r ∧ Q (.bool (!r)) s') E s) : wpAny (model prog w) A (richCompare .NotEq (.ref x) b) Q E s := by
  have one : wpAny (model prog w) A (tryCompare (.ref x) "__ne__" b) (fun r s' => ∃ v, r = some v ∧ Q v s') E s := by
    unfold tryCompare
    refine wpAny_bind (ifBound_objNe X I hs (call_objNeV X I hu hm he hf (wpAny_mono h (fun v s' hv => ?_) fun _ _ e => e)))
    obtain ⟨r, rfl, q⟩ := hv
    exact ⟨r, rfl, wpAny_pure ⟨_, rfl, q⟩⟩
  unfold richCompare
  simp only [oneThing_ref]
  refine wpAny_holding (wpAny_bind (wpAny_cRoomFor (Nat.lt_of_succ_lt hu) ?_))
  rw [cmpInfo_NotEq]
  dsimp only
  refine wpAny_bind (I.type.here (wpAny_bind (hb.here ?_)))
  split
  · rename_i q
    have e : subIn K tb (.ref C) = some false := by
      rcases Bool.or_eq_true_iff.mp hn with e | e
      · rw [beq_iff_eq.mp e] at q; simp at q
      · exact beq_iff_eq.mp e
    refine wpAny_bind ((looks_subIn X e).here ?_)
    simp only [Bool.false_eq_true, if_false]
    refine wpAny_bind (wpAny_mono one (fun r s' z => ?_) fun _ _ e => e)
    obtain ⟨v, rfl, hq⟩ := z
    exact wpAny_pure hq
  · refine wpAny_bind (wpAny_pure ?_)
    simp only [Bool.false_eq_true, if_false]
    refine wpAny_bind (wpAny_mono one (fun r s' z => ?_) fun _ _ e => e)
    obtain ⟨v, rfl, hq⟩ := z
    exact wpAny_pure hq
end
end HNe
namespace Mr
open PySem PySem.Spec PyProof.Rows L2
/-! ### == and != by an own __eq__, whatever it tells -/
def obRes (f : List Val → M Val) (x y : Val) : Option Bool := match f [x, y] [] with
  | .ok (.bl b) _ => some b
  | _ => none
def tyIn : List String := ["NoneType", "bool", "int", "str", "tuple", "list", "dict"]
def yOk (c : Str) (h : AH) (y : Val) : Bool := match y with
  | .ob c' _ _ => decide (c' = c)
  | y => match tyName h y with
    | some t => tyIn.contains t
    | none => false
def oOwn (ne : Bool) (c : Str) (f : List Val → M Val) (x y : Val) (h : AH) : Option Val := match x with
  | .ob c' _ _ => if decide (c' = c) && (plain y && yOk c h y) then (obRes f x y).map fun b => .bl (b != ne) else none
  | _ => none
def spEqB (R : Addr → V → Bool → Hp → Prop) : Sp := fun vs H Q _ => ∃ a y b, vs = [.ref a, y] ∧ R a y b H ∧ ∀ H', Ext H H' → Q (.bl b) H'
def REqB (K : KK) (f : List Val → M Val) (a : Addr) (y : V) (b : Bool) (H : Hp) : Prop := ∃ r xv yv, Rel K r [] H ∧ RV K r H xv (.ref a) ∧ RV K r H yv y ∧ obRes f xv yv = some b
theorem spEqB_of {K : KK} {f : List Val → M Val} (vs : List V) (H : Hp) (Q : VK) (E : XK) (z : spEqB (REqB K f) vs H Q E) : spM K f 2 vs H Q E := by
  obtain ⟨a, y, b, rfl, ⟨r, xv, yv, R, qx, qy, h⟩, q⟩ := z
  refine ⟨rfl, r, [], [xv, yv], R, .cons qx (.cons qy .nil), ?_⟩
  unfold obRes at h
  cases e : f [xv, yv] [] with
  | ok v h2 =>
    rw [e] at h
    split at h
    · rename_i v' h' e'
      cases e'
      cases h
      intro r' H' g R' u qu
      cases qu
      refine q H' fun a o e => g.fr a o e fun z => ?_
      have hl := R.len
      have : r.m = [] := List.eq_nil_of_length_eq_zero hl
      rw [this] at z
      cases z
    · cases h
  | exc _ _ _ _ => rw [e] at h; cases h
  | bad => rw [e] at h; cases h
section
variable {X : Cx} {k : Nat} {C f : Addr} {fd : FuncData} {ps : List Str} {R : Addr → V → Bool → Hp → Prop}
theorem call_ownB (F : FnG X.prog X.w X.K X.mg X.base (L2.CX X.prog X.w) k f fd ps (spEqB R)) (hb : Binds X.K fd ps []) {A : Around} {pins : List (Addr × Obj)} {s : Shared} {σ : L2.St} {H : Hp} {a : Addr} {y : V} {v : Value} {b : Bool} (sb : SubG X k A) (I : Inv X pins σ H s) (ry : RelV y v) (hr : R a y b H) :
    wpAny (model X.prog X.w) A (call (.ref f) [.ref a, v]) (fun v s' => v = .bool b ∧ ∃ H', Inv X pins σ H' s' ∧ Ext H H') X.xe s := by
  have hsp : spEqB R [.ref a, y] H (fun v H' => v = .bl b ∧ Ext H H') (fun _ _ _ => False) := ⟨a, y, b, rfl, hr, fun H' e => ⟨rfl, e⟩⟩
  have e0 : Env0 X.prog X.w X.K X.mg X.base A X.stack s H := by
    have e := I.env0
    exact ⟨by rw [sb.fr]; exact e.frames, e.mod, e.bs, e.bsz, e.funs, e.frf, e.hok, e.bare⟩
  have hl := F.ln _ _ _ _ hsp
  have r2 : Vals [V.ref a, y] [Value.ref a, v] := .cons rfl (.cons ry .nil)
  refine wpAny_call (codeAny_mono (F.go A X.stack s H ⟨[.ref a, v], []⟩ [.ref a, v] [.ref a, y] _ _ sb.room sb.gd e0 (by
    have := hb s [.ref a, v] I.kIn (by simpa using hl)
    simpa using this) r2 hsp) fun r s' hq => ?_)
  cases r with
  | error e =>
    obtain ⟨_, _, _, _, _, _, _, _, _, _, _, _, z⟩ := hq
    exact z.elim
  | ok fl =>
    cases fl with
    | ret w =>
      obtain ⟨z, H', I', rz, ez, ex⟩ := I.after hq
      subst ez
      cases rz
      exact ⟨rfl, H', I', ex⟩
    | next => exact False.elim hq
    | brk => exact False.elim hq
    | cont => exact False.elim hq
/-- the type of the other one -/
def OthTy (X : Cx) (C : Addr) (H : Hp) (y : V) : Prop := (∃ b dx fs, y = .ref b ∧ H b = some (.ins C dx fs)) ∨ ∃ t, tyIn.contains t = true ∧ TyX X.K H y (.type t)
theorem not_first {K : PySem.W.Frag} {t : String} (h : tyIn.contains t = true) : PySem.W.notFirst K C (.type t) = true := by
  have : t ∈ tyIn := by simpa using h
  have e : ∀ t ∈ tyIn, PySem.W.subIn K (.type t) (.ref C) = some false := by
    intro t ht
    simp only [tyIn, List.mem_cons, List.not_mem_nil, or_false] at ht
    rcases ht with e | e | e | e | e | e | e <;> subst e <;> rfl
  unfold PySem.W.notFirst
  rw [e t this]
  simp
theorem own_cmp (F : FnG X.prog X.w X.K X.mg X.base (L2.CX X.prog X.w) k f fd ps (spEqB R)) (hb : Binds X.K fd ps []) (E : EqC X.K C f) {pins : List (Addr × Obj)} {s : Shared} {σ : L2.St} {H : Hp} {a dx : Addr} {fs : List (Str × V)} {y : V} {v : Value} {b : Bool} (ne : Bool)
    (sb : SubG X (k + 1) X.A) (I : Inv X pins σ H s) (ha : H a = some (.ins C dx fs)) (ry : RelV y v) (ty : OthTy X C H y) (hr : R a y b H) :
    wpAny (model X.prog X.w) X.A (richCompare (if ne = true then .NotEq else .Eq) (.ref a) v) (fun r s' => r = .bool (b != ne) ∧ ∃ H', Inv X pins σ H' s' ∧ Ext H H') X.xe s := by
  obtain ⟨mA, J, _⟩ := ins_get I.hok ha
  obtain ⟨od, J, _⟩ := J.look
  obtain ⟨m, hF⟩ := I.fr
  have tb : ∃ tb, PySem.W.Looks (model X.prog X.w) s.heap (typeOf v) tb ∧ PySem.W.notFirst X.K C tb = true := by
    rcases ty with ⟨c, dy, gs, rfl, hc⟩ | ⟨t, ht, ty⟩
    · cases ry
      obtain ⟨mB, J', _⟩ := ins_get I.hok hc
      obtain ⟨od', J', _⟩ := J'.look
      exact ⟨.ref C, J'.type, by simp [PySem.W.notFirst]⟩
    · obtain ⟨P, kx, hp, _⟩ := kit_of I ry ty
      exact ⟨.type t, kx.ty _ _ I.kIn hp, not_first ht⟩
  obtain ⟨tb, lk, nf⟩ := tb
  cases ne with
  | false =>
    refine PySem.W.cmp_K (op := .Eq) (tb := tb) sb.room.units0 hF I.ok.mod.kin J lk nf E.eq E.fn ?_
    refine wpAny_mono (call_ownB F hb (sb.mono (Nat.le_succ k)) I ry hr) (fun v s' q => ?_) fun _ _ z => z
    obtain ⟨rfl, q⟩ := q
    exact ⟨by simp, q⟩
  | true =>
    refine HNe.ne_KV (by have := sb.room.un; omega) I.kIn J lk nf E.ne E.ob E.eq E.fn (wpAny_mono (call_ownB F hb sb.in1 I ry hr) (fun v s' q => ?_) fun _ _ z => z)
    obtain ⟨rfl, q⟩ := q
    exact ⟨b, rfl, by simp, q⟩
end
section
variable {X : Cx} {W : WX} {k : Nat} {C fe : Addr} {fd : FuncData} {ps : List Str} {c : Str} {f : List Val → M Val}
def rOwnB (X : Cx) (C : Addr) (f : List Val → M Val) (ne : Bool) : R2 := fun x y H Q => ∃ a dx fs b, x = .ref a ∧ H a = some (.ins C dx fs) ∧ OthTy X C H y ∧ REqB X.kk f a y b H ∧ ∀ H', Ext H H' → Q (.bl (b != ne)) H'
theorem om_own (ne : Bool) (hC : X.kk.ct c = some C) : OpM X.kk (rOwnB X C f ne) (oOwn ne c f) := by
  intro r h H x y u w z Q R qx qy e k
  unfold oOwn at e
  split at e
  · rename_i c' ns vs
    split at e
    · rename_i hh
      rw [Bool.and_eq_true, Bool.and_eq_true] at hh
      obtain ⟨h1, h2, h3⟩ := hh
      have h1 := of_decide_eq_true h1
      subst h1
      cases q1 : obRes f (.ob c' ns vs) y with
      | none => rw [q1] at e; cases e
      | some b =>
        rw [q1] at e
        cases e
        have lx := qx.low (by rfl)
        have ly := qy.low h2
        have ty : OthTy X C H w := by
          unfold yOk at h3
          split at h3
          · rename_i c2 ns2 vs2
            have h3 := of_decide_eq_true h3
            subst h3
            cases qy with
            | ob z hc e1 hl t =>
              have := hC.symm.trans hc
              cases this
              exact .inl ⟨_, _, _, rfl, e1⟩
          · split at h3
            · rename_i t q2
              exact .inr ⟨t, h3, R.ty qy q2⟩
            · cases h3
        cases qx with
        | ob z hc e1 hl t =>
          have := hC.symm.trans hc
          cases this
          exact ⟨_, _, _, b, rfl, e1, ty, ⟨r.lo, _, _, R.lo, lx, ly, q1⟩, fun H' ex => k r H' ⟨⟨fun _ _ e => e, Keep.all ex, fun _ e => e, fun a o _ z => ex a o z⟩, fun a o z _ => ex a o z, fun _ z => .inl z, fun _ z => .inl z⟩ (R.same ex) _ (.bl _)⟩
    · cases e
  · cases e
theorem op_own (ne : Bool) (F : FnG X.prog X.w X.K X.mg X.base (L2.CX X.prog X.w) k fe fd ps (spM X.kk f 2)) (hb : ∃ ds, Vals [] ds ∧ Binds X.K fd ps ds) (E : EqC X.K C fe) (hr : Room (k + 1) X.A) (hG : X.A.guards = some []) : OpR X (compareOp (if ne = true then .NotEq else .Eq)) (rOwnB X C f ne) := by
  obtain ⟨ds, hd, hb⟩ := hb
  cases hd
  have F' := FnG.imp F fun vs H Q E => spEqB_of vs H Q E
  intro pins s σ H x y v u Q I rx ry hq
  obtain ⟨a, dx, fs, b, rfl, ha, ty, d, q⟩ := hq
  cases rx
  have sb : SubG X (k + 1) X.A := ⟨hr, rfl, hG⟩
  have e : compareOp (if ne = true then CmpOp.NotEq else CmpOp.Eq) (.ref a) u = richCompare (if ne = true then CmpOp.NotEq else CmpOp.Eq) (.ref a) u := by cases ne <;> rfl
  rw [e]
  refine wpAny_mono (own_cmp F' hb E ne sb I ha ry ty d) (fun r s' z => ?_) fun _ _ x => x
  obtain ⟨hr', H', I', e⟩ := z
  subst hr'
  exact ⟨.bl (b != ne), H', I', rfl, q H' e⟩
variable {a b : Expr} {ma mb : ME} {pos : Pos}
theorem se_ownEq (F : FnG X.prog X.w X.K X.mg X.base (L2.CX X.prog X.w) k fe fd ps (spM X.kk f 2)) (hb : ∃ ds, Vals [] ds ∧ Binds X.K fd ps ds) (E : EqC X.K C fe) (hr : Room (k + 1) X.A) (hG : X.A.guards = some []) (hC : X.kk.ct c = some C) (ha : SE X W a ma) (hb' : SE X W b mb) (hm : behindInMarks .Eq b = false := by rfl) :
    SE X W (.Compare a [.Eq] [b] pos) (mOp (oOwn false c f) ma mb) := se_cmp (op_own false F hb E hr hG) (om_own false hC) ha hb' hm
theorem st_ownEq (F : FnG X.prog X.w X.K X.mg X.base (L2.CX X.prog X.w) k fe fd ps (spM X.kk f 2)) (hb : ∃ ds, Vals [] ds ∧ Binds X.K fd ps ds) (E : EqC X.K C fe) (hr : Room (k + 1) X.A) (hG : X.A.guards = some []) (hC : X.kk.ct c = some C) (ha : SE X W a ma) (hb' : SE X W b mb) (hm : behindInMarks .Eq b = false := by rfl) :
    ST X W (.Compare a [.Eq] [b] pos) (mTest (mOp (oOwn false c f) ma mb)) := st_cmp (op_own false F hb E hr hG) (om_own false hC) ha hb' hm
theorem se_ownNe (F : FnG X.prog X.w X.K X.mg X.base (L2.CX X.prog X.w) k fe fd ps (spM X.kk f 2)) (hb : ∃ ds, Vals [] ds ∧ Binds X.K fd ps ds) (E : EqC X.K C fe) (hr : Room (k + 1) X.A) (hG : X.A.guards = some []) (hC : X.kk.ct c = some C) (ha : SE X W a ma) (hb' : SE X W b mb) (hm : behindInMarks .NotEq b = false := by rfl) :
    SE X W (.Compare a [.NotEq] [b] pos) (mOp (oOwn true c f) ma mb) := se_cmp (op_own true F hb E hr hG) (om_own true hC) ha hb' hm
theorem st_ownNe (F : FnG X.prog X.w X.K X.mg X.base (L2.CX X.prog X.w) k fe fd ps (spM X.kk f 2)) (hb : ∃ ds, Vals [] ds ∧ Binds X.K fd ps ds) (E : EqC X.K C fe) (hr : Room (k + 1) X.A) (hG : X.A.guards = some []) (hC : X.kk.ct c = some C) (ha : SE X W a ma) (hb' : SE X W b mb) (hm : behindInMarks .NotEq b = false := by rfl) :
    ST X W (.Compare a [.NotEq] [b] pos) (mTest (mOp (oOwn true c f) ma mb)) := st_cmp (op_own true F hb E hr hG) (om_own true hC) ha hb' hm
end
end Mr

set_option Elab.async false
set_option linter.all false
set_option maxRecDepth 100000
set_option maxHeartbeats 1000000
namespace HEn
open PySem PySem.Spec PyProof.Rows
open Sem (wp)
set_option maxHeartbeats 1000000 in
theorem meets_enumerate_new1 {v : Value} {o : Obj} {H : Heap → Prop} (B : Begins v o H) :
    Meets (Builtin.«enumerate.__new__» ⟨[.type "enumerate", v], []⟩) (fun _ R s => H s.heap ∧
      R (.ok (.ret (.ref (s.heap.push o).objs.size))) { s with heap := (s.heap.push o).push { cls := .type "enumerate", data := .fields #[.none, .bool false, .ref s.heap.objs.size, rawInt 0, .none, .none] } }) :=
  .of_wp fun prog w A R s h => by
    obtain ⟨hp, g, d, tk, os⟩ := s; obtain ⟨h1, h⟩ := h
    have hsub := sub_enumerate
    have q1 : ∀ {A' : Around} {E : Value → Shared → Prop} {Q : Value → Shared → Prop}, Q (.ref hp.objs.size) ⟨hp.push o, g, d, tk, os⟩ → wpAny (model prog w) A' (pyIter v) Q E ⟨hp, g, d, tk, os⟩ :=
      fun q => B.iter prog w _ _ ⟨hp, g, d, tk, os⟩ _ h1 q
    wp_walk using q1
    refine wpAny_stack_any fun st => wpAny_pure ?_
    split
    · rename_i c _ _ _ _ _
      cases (c == Value.type "enumerate")
      · wp_walk using q1
        exact ⟨_, rfl, h⟩
      · wp_walk using q1
        exact ⟨_, rfl, h⟩
    · wp_walk using q1
      exact ⟨_, rfl, h⟩
section
variable {prog : Program} {w : World} {A : Around} {E : Value → Shared → Prop} {s : Shared}
theorem call_enumerate_B {v : Value} {o : Obj} {H : Heap → Prop} {Q : Value → Shared → Prop} (B : Begins v o H) (h1 : H s.heap)
    (h : ∀ h', IsEnum h' (s.heap.objs.size + 1) s.heap.objs.size 0 .none → h'.get? s.heap.objs.size = some o → h'.objs.size = s.heap.objs.size + 2 →
      (∀ b o, s.heap.get? b = some o → h'.get? b = some o) → Q (.ref (s.heap.objs.size + 1)) { s with heap := h' }) :
    wpAny (model prog w) A (call (.type "enumerate") [v]) Q E s := by
  refine callType_new F.called_enumerate (by decide) (F.typeCall_enumerate_1 _) (F.newCall_enumerate_1 _) (fun obj => F.args_object_init_2 obj _) F.entry_enumerate_new
    (meets_enumerate_new1 B) ⟨h1, ?_⟩
  have hz : (s.heap.push o).objs.size = s.heap.objs.size + 1 := Heap.size_push ..
  show _ ∧ _
  rw [hz]
  have he : IsEnum ((s.heap.push o).push { cls := .type "enumerate", data := .fields #[.none, .bool false, .ref s.heap.objs.size, rawInt 0, .none, .none] }) (s.heap.objs.size + 1) s.heap.objs.size 0 .none := by
    have := Heap.get?_push_size (s.heap.push o) (o := { cls := .type "enumerate", data := .fields #[.none, .bool false, .ref s.heap.objs.size, rawInt 0, .none, .none] }) rfl
    rw [hz] at this; exact this
  refine ⟨⟨_, he, rfl⟩, h _ he (Heap.get?_push_of_some _ (Heap.get?_push_size _ B.free)) (by rw [Heap.size_push, hz]) fun b o x => Heap.get?_push_of_some _ (Heap.get?_push_of_some _ x)⟩
theorem enumT_end {e it l : Addr} {i : Nat} {items : Array Value} {old : Value} {Q : Option Value → Shared → Prop} (hh : A.handled = none)
    (he : IsEnum s.heap e it i old) (hit : s.heap.IsTupleIter it l i) (hl : s.heap.IsTuple l items) (hx : items[i]? = none)
    (hQ : ∀ h', Heap.ExtBut it s.heap h' → Q none { s with heap := h' }) : wpAny (model prog w) A (pyNext (.ref e)) Q E s := by
  have hT : s.TypeIs (.ref e) "enumerate" := ⟨_, he, rfl⟩
  unfold pyNext
  refine wpAny_bind (wpAny_attempt (wpAny_callSpecial?_slot (name := Str.ofString "__next__") hT F.slot_enumerate_next
    (wpAny_call_entry F.slot_enumerate_next hT F.entry_enumerate_next ?_ (F.args_enumerate_next_1 _))))
  show wpAny _ _ (field (.ref e) 2 >>= _) _ _ _
  refine wpAny_bind (wpAny_field he rfl (x := .ref it) rfl ?_)
  refine wpAny_bind (wpAny_nextOf_tuple_end hh hit hl hx fun h' x he' hx' => ?_)
  obtain ⟨o, ho, hc⟩ := hx'
  refine wpAny_bind (wpAny_isInstance (T := "StopIteration") (b := true) ⟨o, ho, hc⟩ isSubtype_stop ?_)
  exact wpAny_pure (hQ _ he')
end
end HEn
namespace L2
open PySem PySem.Spec PyProof.Rows
/-! ### enumerate(tuple) -/
def Iet (K : PySem.W.Frag) (a : Addr) : It :=
  ⟨fun i H => ∃ (xs : List V) (x : V), SqT K H a xs ∧ xs[i]? = some x, fun i H v H' => ∃ T x, v = .ref T ∧ H T = none ∧ H' = upd H T (.tup [.int (i : Nat), x]) ∧ ∀ xs, SqT K H a xs → xs[i]? = some x, fun i H => ∃ xs : List V, SqT K H a xs ∧ xs.length ≤ i⟩
theorem turn_enumT {P : Program} {w : World} {K : PySem.W.Frag} {elts : List Expr} {kk : Nat} {tpos : Pos} (a e it : Addr) :
    Turn P w K (.Tuple elts kk tpos) (Iet K a) [e, it] e (fun i h => (∃ old, IsEnum h e it ((i : Nat) : Int) old) ∧ h.IsTupleIter it a i ∧ e ≠ it) where
  mem := by simp
  obj := fun i h st b hb => by
    obtain ⟨⟨old, he⟩, ⟨o, ho, hc, hd⟩, _⟩ := st
    have e' : b = e ∨ b = it := by simpa using hb
    rcases e' with z | z
    · rw [z]; exact ⟨_, he, fun v q => nomatch q⟩
    · rw [z]; exact ⟨o, ho, fun v q => by rw [hd] at q; cases q⟩
  keep := fun i h h' st k => let ⟨⟨old, he⟩, hi, hne⟩ := st; ⟨⟨old, k e (by simp) _ he⟩, hi.at fun o q => k it (by simp) o q, hne⟩
  item := by
    intro X hP hw hK hc i pins s σ H E I hf st hg
    subst hP hw hK
    obtain ⟨⟨old, he⟩, hit, hne⟩ := st
    obtain ⟨xs, x, hq, hx⟩ := hg
    obtain ⟨its, rv, p, hz⟩ := I.tuple hq
    obtain ⟨u, hu, ru⟩ := rv.get hx
    have hel : e < s.heap.objs.size := Heap.lt_size he
    have hil : it < s.heap.objs.size := by obtain ⟨_, q, _⟩ := hit; exact Heap.lt_size q
    have hta : a ≠ it := fun z => by
      obtain ⟨o1, q1, c1, _⟩ := hit
      obtain ⟨o2, q2, c2, _⟩ := p
      rw [z, q1] at q2; cases q2
      rw [c1] at c2
      exact absurd c2 (by decide)
    have hea : e ≠ a := fun z => by
      obtain ⟨o2, q2, c2, _⟩ := p
      rw [← z] at q2
      have : s.heap.get? e = some _ := he
      rw [this] at q2; cases q2
      exact absurd (show Value.type "enumerate" = .type "tuple" from c2) (by decide)
    have hlt : i < its.toArray.size := by
      have := (List.getElem?_eq_some_iff.mp hu).1
      simpa using this
    refine wpAny_pyNext_enum_itemC (Draws.tuple (A := X.A.in1) (prog := X.prog) (w := X.w) (I.ok.hd hc) it a hta its.toArray) he ⟨hit, p⟩ hlt hne (by simp [hne, hea]) fun x' h' tk hP ho hst' hT hsz hk => ?_
    have ex : x' = u := by
      have : its[i]? = some x' := by simpa using hP
      rw [hu] at this
      exact (Option.some.inj this).symm
    subst ex
    refine ⟨_, rfl, wpAny_letOwnedTupleGo_enum (s := { s with heap := h', toks := tk + 1 }) ho fun h'' he' sb => ?_⟩
    have hT2 : h''.get? s.heap.objs.size = some { cls := .type "tuple", data := .seq #[.int i tk, x'] } := (sb.2 _ (Nat.ne_of_gt hel)).trans hT
    have new : ObjOk X.prog X.w (upd H s.heap.objs.size (.tup [.int (i : Nat), x])) h'' s.heap.objs.size (.tup [.int (i : Nat), x]) :=
      ⟨by show 2 ≤ sizeLine; decide, [.int i tk, x'], .cons ⟨_, rfl⟩ (.cons ru .nil), ⟨_, hT2, rfl, _, rfl⟩⟩
    have I1 : Inv X pins σ (upd H s.heap.objs.size (.tup [.int (i : Nat), x])) { s with heap := h'', toks := tk + 1 } :=
      I.turnedNew (ch := [e, it]) (fun b ob hb q => (sb.2 b (fun z => hb (by simp [z]))).trans (hk b ob (fun z => hb (by simp [z])) (fun z => hb (by simp [z])) q)) hf (Nat.le_refl _) new
    refine ⟨.ref s.heap.objs.size, _, I1, rfl, ⟨_, x, rfl, I.hok.fresh (Nat.le_refl _), rfl, fun ys hy => by rw [I.tuple_inj hy hq]; exact hx⟩, ⟨⟨x', ?_⟩, hst'.1.at fun o q => (sb.2 it (Ne.symm hne)).trans q, hne⟩, fun b hb => ?_⟩
    · have e1 : ((i + 1 : Nat) : Int) = (i : Int) + 1 := by omega
      rw [e1]; exact he'
    · have hb' : b < s.heap.objs.size := by
        have e' : b = e ∨ b = it := by simpa using hb
        rcases e' with z | z
        · rw [z]; exact hel
        · rw [z]; exact hil
      rw [upd_ne (Nat.ne_of_lt hb')]
      exact (hf b hb).1
  done := by
    intro X hP hw hK hc i pins s σ H E I hf st hg
    subst hP hw hK
    obtain ⟨⟨old, he⟩, hit, hne⟩ := st
    obtain ⟨xs, hq, hx⟩ := hg
    obtain ⟨its, rv, p, hz⟩ := I.tuple hq
    obtain ⟨f0, f1, f2, f3, f4, f5⟩ := hf it (by simp)
    have hl := rv.length
    have hta : a ≠ it := fun z => by
      obtain ⟨o1, q1, c1, _⟩ := hit
      obtain ⟨o2, q2, c2, _⟩ := p
      rw [z, q1] at q2; cases q2
      rw [c1] at c2
      exact absurd c2 (by decide)
    exact HEn.enumT_end (I.ok.hd hc) he hit p (by simp; omega) fun h' eb => ⟨rfl, I.turned (t' := s.toks) (fun b o hb q => eb b o hb q) f0 f1 f3 f4 f5⟩
  self := fun A i s Q E st h => let ⟨⟨_, he⟩, _⟩ := st; wpAny_pyIter_enum he h
def iEnumT (K : PySem.W.Frag) (ta : TA) : TI := fun σ H R => ta σ H fun vs H1 => ∃ a xs, vs = [.ref a] ∧ SqT K H1 a xs ∧ R (Iet K a) H1
theorem pi_enumT {X : Cx} {e : Expr} {ta : TA} {p pos tpos : Pos} {elts : List Expr} {kk : Nat} (hg : Gl X "enumerate") (hm : X.mg "enumerate" = none) (ha : PA X [e] ta) (hs : starEach [e] X.env = [(false, eval e X.env)] := by rfl) :
    PI X (.Tuple elts kk tpos) (.Call (.Name "enumerate" p) [e] [] pos) (iEnumT X.K ta) := by
  refine ⟨fun pins s σ H R I h => ?_⟩
  refine Call_ (ld_blt I hg hm boot_enumerate (PyProof.Rows.callWith_type1 (thn (ha.run pos pins s σ H _ I h) fun us s1 ⟨vs, H1, I1, r1, q1⟩ => ?_) hs rfl))
  obtain ⟨a, xs, ex, hq, q⟩ := q1
  subst ex
  cases r1 with
  | cons r rr =>
    cases rr
    cases r
    obtain ⟨its, rv, p', hz⟩ := I1.tuple hq
    refine HEn.call_enumerate_B (begins_tuple a its.toArray) p' fun h' he hit hsz hk => wpAny_pyIter_enum he ?_
    have I2 : Inv X pins σ H1 { s1 with heap := h' } := I1.kept (t' := s1.toks) hk
    refine ⟨s1.heap.objs.size + 1, [s1.heap.objs.size + 1, s1.heap.objs.size], _, _, H1, rfl, I2, turn_enumT a (s1.heap.objs.size + 1) s1.heap.objs.size, ⟨⟨.none, he⟩, ⟨_, hit, rfl, rfl⟩, Nat.succ_ne_self _⟩, fun b hb => ?_, q⟩
    have e' : b = s1.heap.objs.size + 1 ∨ b = s1.heap.objs.size := by simpa using hb
    have hle : s1.heap.objs.size ≤ b := by
      rcases e' with z | z
      · rw [z]; exact Nat.le_add_right _ _
      · rw [z]; exact Nat.le_refl _
    exact I1.fpOk hle (I1.hok.fresh hle)
end L2
namespace Mr
open PySem PySem.Spec PyProof.Rows L2
/-- a list's or a tuple's items, numbered -/
def enA : Val → M (List Val)
  | .tup xs => ret (enumF 0 xs)
  | v => bnd (fzI v) fun xs => ret (enumF 0 xs)
def mEnumA (t : MA) : MI := fun sl => bnd (t sl) fun vs => match vs with
  | [v] => enA v
  | _ => fail
section
variable {X : Cx} {W : WX} {K : KK}
theorem itr_enumT {r : Rg} {H : Hp} {a : Addr} {xs : List Val} {us : List V} (s : SqT K H a us) (t : RVs K r H xs us) : ItR K r H (Iet K a) (enumF 0 xs) := by
  intro r1 h1 H1 k g R
  have s := sqt_go g.kp s
  have t := t.vo g
  rw [enumF_get, Nat.zero_add]
  cases q2 : xs[k]? with
  | none => exact ⟨fun _ => ⟨us, s, by rw [t.length]; exact List.getElem?_eq_none_iff.mp q2⟩, fun v e => by cases e⟩
  | some y =>
    refine ⟨fun e => (by cases e), fun v e => ?_⟩
    cases e
    obtain ⟨u, f1, f2⟩ := t.get q2
    refine ⟨⟨us, u, s, f1⟩, fun x H' z => ?_⟩
    obtain ⟨T, w, rfl, nT, rfl, z⟩ := z
    have e2 := z us s
    rw [f1] at e2
    cases e2
    have g2 : Go r1 H1 r1 (upd H1 T (.tup [.int (k : Nat), u])) := go_new nT
    exact ⟨g2, R.newu nT, .tup (SqT.of upd_same) (.cons (.int _) (.cons (f2.go g2) .nil))⟩
theorem si_enumA {a : Expr} {t : MA} {p pos tpos : Pos} {elts : List Expr} {kk : Nat} (hm : X.mg "enumerate" = none) (ha : SA X W [a] t) (hg : Gl X "enumerate" := by rfl) (hs : starEach [a] X.env = [(false, eval a X.env)] := by rfl) : SI X W (.Tuple elts kk tpos) (.Call (.Name "enumerate" p) [a] [] pos) (mEnumA t) := PI.imp (PI.or (pi_enum hg hm ha hs) (pi_enumT hg hm ha hs)) fun s H Q ⟨r, h, sl, R, S, o⟩ => by
  unfold mEnumA bnd at o
  cases q : t sl h with
  | bad => rw [q] at o; exact .inl ⟨r, h, sl, R, S, by rw [q]; exact o⟩
  | exc c f v h1 => rw [q] at o; exact .inl ⟨r, h, sl, R, S, by rw [q]; exact o⟩
  | ok vs h1 =>
    rw [q] at o
    dsimp only at o
    match vs, q, o with
    | [v], q, o =>
      have gen : Out X.kk r H (bnd (fzI v) (fun xs => ret (enumF 0 xs)) h1) (fun xs r' h' H' => ∀ J, ItR X.kk r' H' J xs → Q J H') (fun cls d H' => W cls d s H') → iEnum X.K (tA X.kk W t) s H Q := fun o2 => by
        refine ⟨r, h, sl, R, S, ?_⟩
        rw [q]
        intro r1 H1 g1 R1 us q1
        obtain ⟨u, rfl, q2⟩ := q1.one
        obtain ⟨a, xs, r2, h2, rfl, g2, R2, l, k⟩ := fzI_ok R1 q2 (Out.split (o2.base g1))
        obtain ⟨ws, s', t⟩ := l r2 H1 (Vo.refl _ _)
        exact ⟨a, ws, rfl, s', k.now R2 _ (itr_enum l)⟩
      cases v with
      | tup xs =>
        refine .inr ⟨r, h, sl, R, S, ?_⟩
        rw [q]
        intro r1 H1 g1 R1 us q1
        obtain ⟨u, rfl, q2⟩ := q1.one
        cases q2 with
        | tup s' t' =>
          have o3 : Out X.kk r H (ret (enumF 0 xs) h1) (fun xs r' h' H' => ∀ J, ItR X.kk r' H' J xs → Q J H') (fun cls d H' => W cls d s H') := o
          exact ⟨_, _, rfl, s', (o3.base g1).now R1 _ (itr_enumT s' t')⟩
      | _ => exact .inl (gen o)
    | [], q, o => exact o.elim
    | _ :: _ :: _, q, o => exact o.elim
end
end Mr

set_option Elab.async false
set_option linter.all false
set_option maxRecDepth 100000
set_option maxHeartbeats 1000000
namespace Mr
open PySem PySem.Spec PyProof.Rows L2
def methB (K : PySem.W.Frag) (C : Addr) (m : Str) (f : Addr) : Bool := He.eqO (PySem.W.findIn K (.ref C) m) (some (some (.ref f))) && (PySem.W.isFn K (.ref f) && PySem.W.keepIn K (.ref f))
theorem methB_ok {K : PySem.W.Frag} {C : Addr} {m : Str} {f : Addr} (h : methB K C m f = true) : L2.Meth K C m f := by
  unfold methB at h
  obtain ⟨h1, h⟩ := He.ba h
  obtain ⟨h2, h3⟩ := He.ba h
  exact ⟨He.eqO_ok h1, h2, h3⟩
/-! ### C(..) of lists that are changed later -/
mutual
/-- by value, and no list or object in it -/
def loose : Val → Bool
  | .non => true | .bl _ => true | .int _ => true | .str _ => true
  | .tup xs => looses xs
  | _ => false
def looses : List Val → Bool
  | [] => true
  | x :: xs => loose x && looses xs
end
mutual
theorem RV.loosen {K : KK} : ∀ {r r' : Rg} {H : Hp} {x : Val} {u : V}, RV K r H x u → loose x = true → RV K r' H x u
  | _, _, _, _, _, .non, _ => .non
  | _, _, _, _, _, .bl b, _ => .bl b
  | _, _, _, _, _, .int i, _ => .int i
  | _, _, _, _, _, .str x, _ => .str x
  | _, _, _, _, _, .tup s t, p => .tup s (RVs.loosen t (by simpa [loose] using p))
  | _, _, _, _, _, .ref e, p => by simp [loose] at p
  | _, _, _, _, _, .fl z e t, p => by simp [loose] at p
  | _, _, _, _, _, .sl s t, p => by simp [loose] at p
  | _, _, _, _, _, .fd z e l t, p => by simp [loose] at p
  | _, _, _, _, _, .ft z e l t, p => by simp [loose] at p
  | _, _, _, _, _, .ob z c e l t, p => by simp [loose] at p
  | _, _, _, _, _, .ex e k q, p => by simp [loose] at p
theorem RVs.loosen {K : KK} : ∀ {r r' : Rg} {H : Hp} {xs : List Val} {us : List V}, RVs K r H xs us → looses xs = true → RVs K r' H xs us
  | _, _, _, _, _, .nil, _ => .nil
  | _, _, _, _, _, .cons a b, p => .cons (RV.loosen a (by simp [looses] at p; exact p.1)) (RVs.loosen b (by simp [looses] at p; exact p.2))
end
/-- a new instance of loose fields; the arguments stay as they were -/
def newB (c : Str) (f : List Val → M Val) (xs : List Val) : M Val := fun h => match frzs (frz 8) xs h with
  | some (ys, _) => (match f (.ref 0 :: ys) [.ob c [] []] with
    | .ok v h2 => (match v with
      | .non => (match (h2[0]? : Option AO) with
        | some (AO.ob c' ns vs) => if looses vs then .ok (Val.ob c' ns vs) h else .bad
        | _ => .bad)
      | _ => .bad)
    | _ => .bad)
  | none => .bad
def mNewB (c : Str) (f : List Val → M Val) (dm : List Val) (t : MA) : ME := fun sl => bnd (t sl) fun xs => newB c f (xs ++ dm)
section
variable {K : KK} {r r1 r2 : Rg} {H H2 : Hp} {h h1 h2 : AH}
theorem newB_ok {c : Str} {C : Addr} {f : List Val → M Val} {n : Nat} {xs : List Val} {us : List V} {Q : VK} {E : XK} (hC : K.ct c = some C) (hn : ∀ xs h, f xs h ≠ .bad → xs.length = n) (R : Rel K r h H) (q : RVs K r H xs us) (o : Out K r H (newB c f xs h) (fun v r' h' H' => ∀ u, RV K r' H' v u → Q u H') E)
    (x dx : Addr) (nx : H x = none) (nd : H dx = none) (ne : dx ≠ x) : spM K f n (.ref x :: us) (upd (upd H dx (.own x)) x (.ins C dx [])) (fun v H2 => v = .non ∧ Q (.ref x) H2) E := by
  unfold newB at o
  cases e1 : frzs (frz 8) xs h with
  | none => rw [e1] at o; exact o.elim
  | some z =>
    obtain ⟨ys, h1⟩ := z
    rw [e1] at o
    dsimp only at o
    obtain ⟨r1, m1, g1, R1, q1⟩ := fzL_ok R q e1
    have st : ∀ a u, H a = some u → upd (upd H dx (.own x)) x (.ins C dx []) a = some u := fun a u e => by
      rw [upd_ne (ne_of_none e nx), upd_ne (ne_of_none e nd)]; exact e
    have g0 : Go r1.lo H ⟨[x], r1.fz⟩ (upd (upd H dx (.own x)) x (.ins C dx [])) :=
      ⟨⟨fun n a e => (by cases e), Keep.all st, fun _ z => z, fun a u _ e => st a u e⟩, fun a u e _ => st a u e, fun a z => .inr (by rw [List.mem_singleton.mp z]; exact nx), fun _ z => .inl z⟩
    have R0 : Rel K ⟨[x], r1.fz⟩ [.ob c [] []] (upd (upd H dx (.own x)) x (.ins C dx [])) := by
      refine ⟨rfl, fun i j b e1 e2 => ?_, fun i b o' e1 e2 => ?_, fun i b o' e1 e2 mt z => ?_, fun a z => ?_, fun b z => ?_⟩
      · match i, j, e1, e2 with
        | 0, 0, _, _ => rfl
        | 0, j + 1, _, e2 => cases e2
        | i + 1, _, e1, _ => cases e1
      · match i, e1, e2 with
        | 0, e1, e2 =>
          cases e1; cases e2
          exact ⟨[], C, dx, hC, upd_same, rfl, .nil⟩
        | i + 1, e1, _ => cases e1
      · match i, e1, e2 with
        | 0, e1, e2 =>
          cases e1
          obtain ⟨u, e⟩ := R1.fd x z
          rw [nx] at e; cases e
        | i + 1, e1, _ => cases e1
      · obtain ⟨u, e⟩ := R1.fd a z
        exact ⟨u, st a u e⟩
      · rw [List.mem_singleton.mp z]
        exact ⟨_, upd_same⟩
    have qy : RVs K ⟨[x], r1.fz⟩ (upd (upd H dx (.own x)) x (.ins C dx [])) (.ref 0 :: ys) (.ref x :: us) := .cons (.ref rfl) (RVs.vo g0.toVo q1)
    have hl : (V.ref x :: us).length = n := by
      rw [qy.length]
      refine hn _ [.ob c [] []] fun z => ?_
      rw [z] at o
      exact o.elim
    refine ⟨hl, _, _, _, R0, qy, ?_⟩
    cases e2 : f (.ref 0 :: ys) [.ob c [] []] with
    | bad => rw [e2] at o; exact o.elim
    | exc c fl v h2 => rw [e2] at o; exact o.elim
    | ok v h2 =>
      rw [e2] at o
      dsimp only at o
      cases v with
      | non =>
        dsimp only at o
        split at o
        · rename_i c' ns vs e3
          split at o
          · rename_i hv
            intro r2 H2 g2 R2 u qu
            cases qu
            have hx : r2.m[0]? = some x := g2.pre 0 x rfl
            obtain ⟨ws, C', dx', f1, f2, f3, f4⟩ := R2.ob 0 x _ hx e3
            have gg := g0.trans g2
            have st2 : ∀ a o, H a = some o → H2 a = some o := fun a o e => gg.fr a o e (fun z => by cases z)
            -- only what is new is by value then
            let r'' : Rg := ⟨r.m, fun a => (r.fz a) ∨ (a = x)⟩
            have nzx : ¬ r.fz x := fun z => by obtain ⟨o, e⟩ := R.fd x z; rw [nx] at e; cases e
            have nmx : x ∉ r.m := fun z => by obtain ⟨o, e⟩ := R.md x z; rw [nx] at e; cases e
            have Rs := R.same st2
            have gq : Go r H r'' H2 := ⟨⟨fun _ _ e => e, Keep.all st2, fun _ z => .inl z, fun a o _ e => st2 a o e⟩, fun a o e _ => st2 a o e, fun _ z => .inl z, fun a z => z.elim .inl fun y => .inr (.inr (by rw [y]; exact nx))⟩
            have vq : Vo r H2 r'' H2 := ⟨fun _ _ e => e, Keep.refl _, fun _ z => .inl z, fun _ _ _ e => e⟩
            have Rq : Rel K r'' h H2 := by
              refine ⟨R.len, R.nd, fun i a o e1 e2 => (Rs.ob i a o e1 e2).go vq fun _ => rfl, fun i a o e1 e2 mt z => ?_, fun a z => ?_, Rs.md⟩
              · rcases z with z | z
                · exact R.mz i a o e1 e2 mt z
                · exact nmx (z ▸ List.mem_of_getElem? e1)
              · rcases z with z | z
                · obtain ⟨o, e⟩ := R.fd a z
                  exact ⟨o, st2 a o e⟩
                · rw [z]; exact ⟨_, f2⟩
            exact ⟨rfl, o r'' H2 gq Rq _ (.ob (.inr rfl) f1 f2 f3 (f4.loosen hv))⟩
          · exact o.elim
        · exact o.elim
      | _ => exact o.elim
end
section
variable {X : Cx} {W : WX} {k n : Nat} {f C : Addr} {fd : FuncData} {ps : List Str} {x : Str} {p pos : Pos} {e : Expr} {es : List Expr} {mt : MA} {size : Nat} {b : MS} {dvs : List V} {dm : List Val}
theorem se_newB (M : L2.Mk X.K C f) (F : FnG X.prog X.w X.K X.mg X.base (L2.CX X.prog X.w) k f fd ps (spM X.kk (mFn n size b) n)) (tk : Takes X W) (hr : Room (k + 1) X.A) (hG : X.A.guards = some []) (hm : X.mg x = some (.ref C)) (hb : ∃ ds, Vals dvs ds ∧ Binds X.K fd ps ds) (hdm : ∀ r H, RVs X.kk r H dm dvs) (hC : X.kk.ct x = some C) (ha : SA X W (e :: es) mt)
    (hg : Gl X x := by rfl) (hdb : (x == ("__debug__" : Str)) = false := by decide) (he : starEach (e :: es) X.env = (false, eval e X.env) :: starEach es X.env := by rfl) (hpl : (backTo pos (starEach es X.env)).any (·.1) = false := by rfl) :
    SE X W (.Call (.Name x p) (e :: es) [] pos) (mNewB x (mFn n size b) dm mt) := by
  obtain ⟨ds, hd, hb⟩ := hb
  refine PE.imp (pe_gmake M F hr hG hg hm hb hd tk ha hdb he hpl) fun σ H Q ⟨r, h, sl, R, S, o⟩ => ?_
  refine ⟨r, h, sl, R, S, o.split.mono fun xs r1 h1 H1 g1 R1 o1 us q1 a dx na nd ne => ?_⟩
  exact newB_ok hC (fun xs h e => mFn_n e) R1 (q1.append (hdm r1 H1)) o1 a dx na nd ne
end
/-! ### .replace of written texts, behind a test that writes a text -/
def uRepl (y z : Str) (x : Val) (_ : AH) : Option Val := match x with
  | .str a => if a.length + (a.length + 1) * z.length ≤ 16777216 then some (.str (Txt.replace a y z)) else none
  | _ => none
def PTT (X : Cx) (c : Expr) (t : TT) : Prop := ∀ (pins : List (Addr × Obj)) (s : Shared) (σ : L2.St) (H : Hp) (Q : Bool → Hp → Prop), Inv X pins σ H s → t σ H Q → wpAny (model X.prog X.w) X.A (isTrue c X.env (eval c X.env)) (fun b s' => 1 ≤ s'.toks ∧ TP X pins σ Q b s') X.xe s
section
variable {X : Cx} {W : WX} {a b c o : Expr} {ta tb : TE} {tc : TT} {pos : Pos} {ma mb mo : ME} {mc : MT}
theorem ptt_eq {r : R2} {y : Str} {j : Nat} {c0 : Pos} (ho : OpR X (compareOp .Eq) r) (ha : PE X a ta) : PTT X (.Compare a [.Eq] [.Constant (.str y) j c0] pos) (tB (tOp r ta (tC (.str y)))) := by
  intro pins s σ H Q I h
  refine wpAny_isTrue_Compare1 (thn (ha.run pins s σ H _ I h) fun v s1 ⟨x, H1, I1, r1, q1⟩ => Calls.Constant_str (wpAny_mono (PySem.wpAny_toks (ho pins _ σ H1 x (.str y) v _ _ (I1.tok _) r1 ⟨_, rfl⟩ q1)) (fun u s3 q3 => ?_) fun _ _ z => z.2)) (nobehind _ (by decide) (by decide))
  obtain ⟨hk, x3, H3, I3, r3, d, rfl, q⟩ := q3
  cases r3
  exact wpAny_truthy_bool ⟨Nat.le_trans (Nat.le_add_left 1 _) hk, H3, I3, q⟩
theorem pe_ifT (hc : PTT X c tc) (ha : L2.PET X a ta) (hb : PE X b tb) : PE X (.IfExp c a b pos) (tIf tc ta tb) := by
  refine ⟨fun pins s σ H Q I h => ?_⟩
  refine wpAny_IfExp (thn (hc pins s σ H _ I h) fun d s1 ⟨hk, H1, I1, q1⟩ => ?_)
  cases d with
  | true => exact ha pins s1 σ H1 Q hk I1 q1
  | false => exact hb.run pins s1 σ H1 Q I1 q1
theorem stt_eq {k : Nat} {y : Str} {j : Nat} {c0 : Pos} (hr : Room k X.A) (ha : SE X W a ma) : ∃ t : TT, PTT X (.Compare a [.Eq] [.Constant (.str y) j c0] pos) t ∧ ∀ {σ : L2.St} {H : Hp} {Q : Bool → Hp → Prop}, tT X.kk W (mTest (mOp oEq ma (mC (.str y)))) σ H Q → t σ H Q := by
  obtain ⟨q, h1, h2⟩ := Cp.ok hr .eq
  refine ⟨_, ptt_eq h1 ha, fun {σ H Q} z => ?_⟩
  obtain ⟨r, h, sl, R, S, o1⟩ := opm_run h2 (mTest_run z)
  refine ⟨r, h, sl, R, S, o1.mono fun x r1 h1 H1 g1 R1 o2 u q1 => ?_⟩
  obtain ⟨r2, h2, sl2, R2, S2, o3⟩ := o2 u q1
  exact Out.now (a := Val.str y) (h := h2) o3 R2 _ (RV.str y)
theorem se_ifRepl {k : Nat} {x : Str} {j : Nat} {c0 : Pos} {y z : Str} {j1 j2 : Nat} {c1 c2 apos cpos : Pos} (hr : Room k X.A) (ha : SE X W a ma) (ho : SE X W o mo) (hb : SE X W b mb) (hyz : (y == z) = false := by decide)
    (hst : starEach [.Constant (.str y) j1 c1, .Constant (.str z) j2 c2] X.env = [(false, eval (.Constant (.str y) j1 c1) X.env), (false, eval (.Constant (.str z) j2 c2) X.env)] := by rfl)
    (hbase : attributeBase o "replace" X.env (eval o X.env) = eval o X.env := by rfl) (hline : (apos.endLine == cpos.line) = true := by rfl) :
    SE X W (.IfExp (.Compare a [.Eq] [.Constant (.str x) j c0] p0) (.Call (.Attribute o "replace" apos) [.Constant (.str y) j1 c1, .Constant (.str z) j2 c2] [] cpos) b pos) (mIf (mTest (mOp oEq ma (mC (.str x)))) (mUn (uRepl y z) mo) mb) := by
  obtain ⟨t, h1, h2⟩ := stt_eq (pos := p0) (y := x) (j := j) (c0 := c0) hr ha
  refine PE.imp (pe_ifT h1 (CwR.pet_replC ho hyz hst hbase hline) hb) fun s H Q ⟨r, h, sl, R, S, o1⟩ => h2 ?_
  refine ⟨r, h, sl, R, S, o1.split.mono fun c r1 h1 H1 g1 R1 o2 => ?_⟩
  cases c with
  | true =>
    refine iteT ⟨r1, h1, sl, R1, S.go g1, (show Out X.kk r1 H1 (mUn (uRepl y z) mo sl h1) _ _ from o2).split.mono fun v r2 h2 H2 g2 R2 o3 u q2 => ?_⟩
    obtain ⟨w, e, k⟩ := o3.lft
    unfold uRepl at e
    split at e
    · split at e
      · rename_i hl
        cases e
        cases q2
        exact ⟨_, rfl, hl, Mr.now k R2 (.str _)⟩
      · cases e
    · cases e
  | false => exact iteF ⟨r1, h1, sl, R1, S.go g1, o2⟩
end
end Mr

set_option Elab.async false
set_option linter.all false
set_option maxRecDepth 100000
set_option maxHeartbeats 1000000
namespace Mr
open PySem PySem.Spec PyProof.Rows L2
/-! ### a call that hands back a pair of a value and a new list -/
def resT (v : Val) (h2 h1 : AH) : Option (Val × AH) := match v with
  | .tup [a, .ref k] => (match frz 8 a h2 with
    | some (w, h3) => (match (h3[k]? : Option AO) with
      | some (.lst zs) => if plains zs then some (.tup [w, .ref h1.length], h1 ++ [.lst zs]) else none
      | _ => none)
    | none => none)
  | _ => none
def pureT (f : List Val → M Val) (xs : List Val) : M Val := bnd (fzL xs) fun ys h1 => match f ys [] with
  | .ok v h2 => (match resT v h2 h1 with
    | some z => .ok z.1 z.2
    | none => .bad)
  | .exc c fl v _ => .exc c fl v h1
  | .bad => .bad
section
variable {K : KK} {r r1 r2 : Rg} {H H2 : Hp} {h h1 h2 : AH}
theorem resT_ok {v : Val} {u : V} {z : Val × AH} {Q : VK} (R1 : Rel K r1 h1 H) (g : Go r1.lo H r2 H2) (R2 : Rel K r2 h2 H2) (q : RV K r2 H2 v u) (e : resT v h2 h1 = some z)
    (k : ∀ r' H', Go r1 H r' H' → Rel K r' z.2 H' → ∀ u, RV K r' H' z.1 u → Q u H') : Q u H2 := by
  unfold resT at e
  split at e
  · rename_i a n
    split at e
    · rename_i w h3 q1
      split at e
      · rename_i zs q2
        split at e
        · rename_i hp
          cases e
          cases q with
          | tup s t =>
            cases t with
            | cons qa t =>
              cases t with
              | cons qb t =>
                cases t
                cases qb with
                | @ref _ _ _ c ec =>
                  obtain ⟨r3, m3, g3, R3, q3⟩ := frz_ok 8 _ _ _ _ _ _ R2 qa q1
                  have ec3 : r3.m[n]? = some c := by rw [m3]; exact ec
                  obtain ⟨us, f1, f2⟩ := R3.ob n c _ ec3 q2
                  obtain ⟨ga, Ra⟩ := iso_back R1 (g.trans g3) R3
                  have na : H c = none := by
                    rcases g.nw c (List.mem_of_getElem? ec) with y | y
                    · cases y
                    · exact y
                  have n1 : c ∉ r1.m := fun y => by
                    obtain ⟨o, eo⟩ := R1.md c y
                    rw [na] at eo; cases eo
                  have n2 := R3.mz n c _ ec3 q2 rfl
                  have Rb := Ra.add (p := c) (o := .lst zs) n1 n2 ⟨us, f1, (RVs.up (r := ⟨r1.m, r3.fz⟩) (f2.low hp)).vo vo_add⟩ ⟨_, f1⟩
                  refine k _ _ (go_addN ga na) Rb _ (.tup s (.cons ((RV.up (r := ⟨r1.m, r3.fz⟩) q3).vo vo_add) (.cons (.ref ?_) .nil)))
                  rw [← Ra.len, List.getElem?_append_right (Nat.le_refl _), Nat.sub_self]
                  rfl
        · cases e
      · cases e
    · cases e
  · cases e
theorem pureT_ok {f : List Val → M Val} {n : Nat} {xs : List Val} {us : List V} {Q : VK} {E : XK} (hn : ∀ xs h, f xs h ≠ .bad → xs.length = n) (R : Rel K r h H) (q : RVs K r H xs us) (o : Out K r H (pureT f xs h) (fun v r' h' H' => ∀ u, RV K r' H' v u → Q u H') E) : spM K f n us H Q E := by
  unfold pureT fzL bnd at o
  dsimp only at o
  cases e1 : frzs (frz 8) xs h with
  | none => rw [e1] at o; exact o.elim
  | some z =>
    obtain ⟨ys, h1⟩ := z
    rw [e1] at o
    dsimp only at o
    obtain ⟨r1, m1, g1, R1, q1⟩ := fzL_ok R q e1
    have hl : us.length = n := by
      rw [q1.length]
      refine hn ys [] fun z => ?_
      rw [z] at o
      exact o.elim
    refine ⟨hl, r1.lo, [], ys, R1.lo, q1, ?_⟩
    cases e2 : f ys [] with
    | bad => rw [e2] at o; exact o.elim
    | exc c fl v h2 =>
      rw [e2] at o
      intro r2 H2 u d C g2 R2 qu hc hd
      obtain ⟨ga, Ra⟩ := iso_back R1 g2 R2
      exact o _ _ u d C (g1.trans ga) Ra qu hc hd
    | ok v h2 =>
      rw [e2] at o
      dsimp only at o
      cases e3 : resT v h2 h1 with
      | none => rw [e3] at o; exact o.elim
      | some z =>
        rw [e3] at o
        intro r2 H2 g2 R2 u qu
        exact resT_ok R1 g2 R2 qu e3 fun r3 H3 g3 R3 => o r3 H3 (g1.trans g3) R3
end
def mCallT (f : List Val → M Val) (dm : List Val) (t : MA) : ME := fun sl => bnd (t sl) fun xs => pureT f (xs ++ dm)
section
variable {X : Cx} {W : WX} {k n : Nat} {f : Addr} {fd : FuncData} {ps : List Str} {x : Str} {p pos : Pos} {e : Expr} {es : List Expr} {mt : MA} {size : Nat} {b : MS} {dvs : List V} {dm : List Val}
theorem se_callT (F : FnG X.prog X.w X.K X.mg X.base (L2.CX X.prog X.w) k f fd ps (spM X.kk (mFn n size b) n)) (tk : Takes X W) (hr : Room k X.A) (hG : X.A.guards = some []) (hm : X.mg x = some (.ref f)) (hk : PySem.W.keepIn X.K (.ref f) = true) (hb : ∃ ds, Vals dvs ds ∧ Binds X.K fd ps ds) (hdm : ∀ r H, RVs X.kk r H dm dvs) (ha : SA X W (e :: es) mt)
    (hg : Gl X x := by rfl) (hdb : (x == ("__debug__" : Str)) = false := by decide) (he : starEach (e :: es) X.env = (false, eval e X.env) :: starEach es X.env := by rfl) (hpl : (backTo pos (starEach es X.env)).any (·.1) = false := by rfl) :
    SE X W (.Call (.Name x p) (e :: es) [] pos) (mCallT (mFn n size b) dm mt) := by
  obtain ⟨ds, hd, hb⟩ := hb
  refine PE.imp (pe_gcallS F hr hG hg hm hk hb hd tk ha hdb he hpl) fun σ H Q ⟨r, h, sl, R, S, o⟩ => ?_
  refine ⟨r, h, sl, R, S, o.split.mono fun xs r1 h1 H1 g1 R1 o1 us q1 => ?_⟩
  exact pureT_ok (fun xs h e => mFn_n e) R1 (q1.append (hdm r1 H1)) o1
end
/-! ### [f, g][i](..) -/
def FRow (X : Cx) (n : Nat) (f : Addr) (m : List Val → M Val) : Prop := ∃ (k : Nat) (fd : FuncData) (ps : List Str) (size : Nat) (b : MS), m = mFn n size b ∧ FnG X.prog X.w X.K X.mg X.base (L2.CX X.prog X.w) k f fd ps (spM X.kk (mFn n size b) n) ∧ Room k X.A ∧ PySem.W.keepIn X.K (.ref f) = true ∧ ∃ ds, Vals [] ds ∧ Binds X.K fd ps ds
def tCallE (X : Cx) (W : WX) (tf : TE) (t : TA) : TE := fun σ H Q => tf σ H fun v H1 => ∃ (f : Addr) (k : Nat) (fd : FuncData) (ps : List Str) (sp : Sp), v = .ref f ∧ FnG X.prog X.w X.K X.mg X.base (L2.CX X.prog X.w) k f fd ps sp ∧ Room k X.A ∧ PySem.W.keepIn X.K (.ref f) = true ∧ (∃ ds, Vals [] ds ∧ Binds X.K fd ps ds) ∧ t σ H1 fun vs H2 => sp vs H2 Q fun cls d H' => W cls d σ H'
section
variable {X : Cx} {W : WX} {n : Nat} {fe b e : Expr} {es : List Expr} {p p2 pos : Pos} {mb : ME} {mt : MA} {tf : TE} {t : TA}
theorem pe_callE (hG : X.A.guards = some []) (tk : Takes X W) (pf : PE X fe tf) (ha : PA X (e :: es) t)
    (arm : eval (.Call fe (e :: es) [] pos) X.env = (do callWith pos (← eval fe X.env) [] (backTo pos (starEach (e :: es) X.env)) (backToKw pos (keywordEach [] X.env))) := by rfl)
    (he : starEach (e :: es) X.env = (false, eval e X.env) :: starEach es X.env := by rfl) (hpl : (backTo pos (starEach es X.env)).any (·.1) = false := by rfl) : PE X (.Call fe (e :: es) [] pos) (tCallE X W tf t) := by
  refine ⟨fun pins s σ H Q I h => ?_⟩
  rw [arm]
  refine wpAny_bind (thn (pf.run pins s σ H _ I h) fun v s1 ⟨u, H1, I1, r, f, k, fd, ps, sp, eu, F, hr, hk, ⟨ds, hd, hb⟩, q⟩ => ?_)
  subst eu
  cases r
  refine PySem.W.callWith_K (h₀ := X.base) I1.ok.mod.kin hk (thn (ha.run pos pins s1 σ H1 _ I1 q) fun _ _ ⟨vs, H2, I2, r2, q2⟩ => ⟨I2.kIn, ?_⟩) he hpl
  refine goes_fnS F hr hG hb hd (passAt tk σ) I2 r2 ?_
  rw [List.append_nil]
  exact q2
def mCallIx (fs : List (List Val → M Val)) (mw : ME) (t : MA) : MN := fun sl => bnd (mw sl) fun v => bnd (lft fun _ => match v with
  | .int i => atI fs i
  | _ => none) fun f => bnd (t sl) fun xs => pureN f xs
theorem atI_two {α β : Type} {xs : List α} {ys : List β} {i : Int} {x : α} (hl : ys.length = xs.length) (h : atI xs i = some x) : ∃ (j : Nat) (y : β), xs[j]? = some x ∧ ys[j]? = some y ∧ atI ys i = some y := by
  unfold atI at h ⊢
  rw [hl]
  cases e : ixN xs.length i with
  | none => rw [e] at h; cases h
  | some j =>
    rw [e] at h
    have h : xs[j]? = some x := h
    have lt : j < ys.length := by
      rw [hl]
      exact (List.getElem?_eq_some_iff.mp h).1
    exact ⟨j, ys[j], h, List.getElem?_eq_getElem lt, List.getElem?_eq_getElem lt⟩
theorem sn_callIx {es0 : List Expr} {as : List Addr} {ms : List (List Val → M Val)} (hp : PA X es0 (fun _ H Q => Q (as.map V.ref) H)) (hl : as.length = ms.length) (hz : as.length ≤ sizeLine) (hF : ∀ (j : Nat) (a : Addr) (m : List Val → M Val), as[j]? = some a → ms[j]? = some m → FRow X n a m)
    (hG : X.A.guards = some []) (tk : Takes X W) (hb : SE X W b mb) (ha : SA X W (e :: es) mt) (hs : PlainIx b := by exact fun _ _ => rfl)
    (arm : eval (.Call (.Subscript (.List es0 p) b p2) (e :: es) [] pos) X.env = (do callWith pos (← eval (.Subscript (.List es0 p) b p2) X.env) [] (backTo pos (starEach (e :: es) X.env)) (backToKw pos (keywordEach [] X.env))) := by rfl)
    (he : starEach (e :: es) X.env = (false, eval e X.env) :: starEach es X.env := by rfl) (hpl : (backTo pos (starEach es X.env)).any (·.1) = false := by rfl) :
    SN X W (.Call (.Subscript (.List es0 p) b p2) (e :: es) [] pos) (mCallIx ms mb mt) := by
  refine PE.imp (pe_callE hG tk (pe_ix ix_seq (pe_lst hp) hb hs) ha arm he hpl) fun σ H Q ⟨r, h, sl, R, S, o⟩ => ?_
  refine ⟨by rw [List.length_map]; exact hz, fun q nq => ?_⟩
  have g0 : Go r H r (upd H q (.lst (as.map V.ref))) := go_new nq
  have R0 := R.newu (u := .lst (as.map V.ref)) nq
  have nm : q ∉ r.m := fun z => by
    obtain ⟨u, e⟩ := R.md q z
    rw [nq] at e; cases e
  refine ⟨r, h, sl, R0, S.go g0, (o.base g0).split.mono fun v r1 h1 H1 g1 R1 o1 u q1 => ?_⟩
  have hq : H1 q = some (.lst (as.map V.ref)) := g1.fr q _ upd_same nm
  obtain ⟨m, e1, o2⟩ := o1.split.lft
  cases v with
  | int i =>
    cases q1
    obtain ⟨j, a, x1, x2, x3⟩ := atI_two hl e1
    have x4 : atI (as.map V.ref) i = some (.ref a) := by
      unfold atI at x3 ⊢
      rw [List.length_map]
      cases e5 : ixN as.length i with
      | none => rw [e5] at x3; cases x3
      | some j2 =>
        rw [e5] at x3
        have x3 : as[j2]? = some a := x3
        show (as.map V.ref)[j2]? = _
        rw [List.getElem?_map, x3]
        rfl
    obtain ⟨k, fd, ps, size, bb, rfl, F, hr, hk, hbb⟩ := hF j a m x2 x1
    refine .inl ⟨q, _, i, _, rfl, rfl, .of hq, x4, a, k, fd, ps, _, rfl, F, hr, hk, hbb, ?_⟩
    have o3 := o2 r1 H1 (Go.refl _ _) R1
    refine ⟨r1, h1, sl, R1, (S.go g0).go g1, o3.split.mono fun xs r2 h2 H2 g2 R2 o4 us q2 => ?_⟩
    exact pureN_ok (fun xs h e => mFn_n e) R2 q2 (o4.mono fun z r3 h3 H3 g3 R3 k => k.base (g0.trans (g1.trans g2)) R2)
  | _ => cases e1
theorem pa_ref_nil : PA X [] (fun _ H Q => Q (([] : List Addr).map V.ref) H) := pa_nil
theorem pa_ref_cons {x : Str} {a : Addr} {as : List Addr} (hm : X.mg x = some (.ref a)) (h : PA X es (fun _ H Q => Q (as.map V.ref) H)) (hg : Gl X x := by rfl) (hdb : (x == ("__debug__" : Str)) = false := by decide)
    (hs : starEach (.Name x p :: es) X.env = (false, eval (.Name x p) X.env) :: starEach es X.env := by rfl) : PA X (.Name x p :: es) (fun _ H Q => Q ((a :: as).map V.ref) H) := pa_cons (pe_glob hg hm (v := .ref a) (show RelV (.ref a) (.ref a) from rfl) hdb) h hs
def FRows (X : Cx) (n : Nat) (as : List Addr) (ms : List (List Val → M Val)) : Prop := ∀ (j : Nat) (a : Addr) (m : List Val → M Val), as[j]? = some a → ms[j]? = some m → FRow X n a m
theorem fr_nil : FRows X n [] [] := fun j a m e => by cases e
theorem fr_cons {a : Addr} {as : List Addr} {m : List Val → M Val} {ms : List (List Val → M Val)} (h : FRow X n a m) (t : FRows X n as ms) : FRows X n (a :: as) (m :: ms) := fun j b m' e1 e2 => by
  cases j with
  | zero => cases e1; cases e2; exact h
  | succ j => exact t j b m' e1 e2
theorem frow_of {k : Nat} {f : Addr} {fd : FuncData} {ps : List Str} {size : Nat} {bb : MS} (F : FnG X.prog X.w X.K X.mg X.base (L2.CX X.prog X.w) k f fd ps (spM X.kk (mFn n size bb) n)) (hr : Room k X.A) (hk : PySem.W.keepIn X.K (.ref f) = true) (hb : ∃ ds, Vals [] ds ∧ Binds X.K fd ps ds) : FRow X n f (mFn n size bb) := ⟨k, fd, ps, size, bb, rfl, F, hr, hk, hb⟩
theorem sn_callIxs {es0 : List Expr} {as : List Addr} {ms : List (List Val → M Val)} (hp : PA X es0 (fun _ H Q => Q (as.map V.ref) H)) (hF : FRows X n as ms) (hG : X.A.guards = some []) (tk : Takes X W) (hb : SE X W b mb) (ha : SA X W (e :: es) mt)
    (hl : as.length = ms.length := by rfl) (hz : ms.length ≤ 8 := by decide) (hs : PlainIx b := by exact fun _ _ => rfl)
    (arm : eval (.Call (.Subscript (.List es0 p) b p2) (e :: es) [] pos) X.env = (do callWith pos (← eval (.Subscript (.List es0 p) b p2) X.env) [] (backTo pos (starEach (e :: es) X.env)) (backToKw pos (keywordEach [] X.env))) := by rfl)
    (he : starEach (e :: es) X.env = (false, eval e X.env) :: starEach es X.env := by rfl) (hpl : (backTo pos (starEach es X.env)).any (·.1) = false := by rfl) :
    SN X W (.Call (.Subscript (.List es0 p) b p2) (e :: es) [] pos) (mCallIx ms mb mt) := sn_callIx hp hl (by rw [sizeLine_eq]; omega) hF hG tk hb ha hs arm he hpl
end
/-! ### a or b, by truth -/
def mOrT (p q : ME) : ME := fun sl => bnd (p sl) fun v => bnd (lft (tstV v)) fun c => if c = true then ret v else q sl
theorem tru_of {K : KK} {r : Rg} {h : AH} {H : Hp} {x : Val} {u : V} {b : Bool} (R : Rel K r h H) (q : RV K r H x u) (e : tstV x h = some b) : TruV K u H b := by
  unfold tstV at e
  split at e
  · cases e; cases q; exact rfl
  · cases e; cases q; exact rfl
  · cases e; cases q; exact rfl
  · cases e
    cases q with
    | tup s t => exact .inr (.inl ⟨_, s, t.emp⟩)
  · cases q2 : lsV h x with
    | none => rw [q2] at e; cases e
    | some xs =>
      rw [q2] at e
      cases e
      obtain ⟨a, us, rfl, s, t⟩ := R.lst q q2
      exact .inl ⟨us, s, t.emp⟩
section
variable {X : Cx} {W : WX} {a b : Expr} {rest : List Expr} {pos : Pos} {ma mb : ME}
theorem se_orT (ha : SE X W a ma) (hb : SE X W (.BoolOp .Or (b :: rest) pos) mb) : SE X W (.BoolOp .Or (a :: b :: rest) pos) (mOrT ma mb) := PE.imp (pe_orT ha hb) fun s H Q ⟨r, h, sl, R, S, o1⟩ => by
  refine ⟨r, h, sl, R, S, o1.split.mono fun xv r1 h1 H1 g1 R1 o2 u q1 => ?_⟩
  obtain ⟨c, e, k⟩ := o2.split.lft
  refine ⟨c, tru_of R1 q1 e, ?_⟩
  have k := k r1 H1 (Go.refl _ _) R1
  cases c with
  | true =>
    rw [if_pos rfl] at k ⊢
    exact k.now R1 _ q1
  | false =>
    rw [if_neg (by decide)] at k ⊢
    exact ⟨r1, h1, sl, R1, S.go g1, k⟩
end
end Mr

set_option Elab.async false
set_option linter.all false
set_option maxRecDepth 100000
set_option maxHeartbeats 2000000
namespace L2
open PySem PySem.Spec PyProof.Rows
/-! ### zip of three lists -/
theorem drawsEnd {prog : Program} {w : World} {A : Around} (hh : A.handled = none) (it l : Addr) (hne : l ≠ it) (items : Array Value) (i : Nat) (hx : items[i]? = none) :
    Draws prog w A it [it, l] i (fun j v => items[j]? = some v) (fun j h => j = i ∧ h.IsListIter it l j ∧ h.IsList l items) where
  live := fun _ _ st => let ⟨o, ho, _⟩ := st.2.1; ⟨o, ho⟩
  frame := fun _ _ _ st hk => ⟨st.1, st.2.1.at fun o e => hk it (by simp) o e, st.2.2.at fun o e => hk l (by simp) o e⟩
  item := fun j s Q E hi st hQ => absurd st.1 (by omega)
  done := fun s Q E st hE => wpAny_nextOf_list_end hh st.2.1 st.2.2 hx hE
theorem drawsAt {prog : Program} {w : World} {A : Around} (hh : A.handled = none) (it l : Addr) (hne : l ≠ it) (items : Array Value) (i : Nat) {h : Heap} (s1 : h.IsListIter it l i) (s2 : h.IsList l items) :
    ∃ (n : Nat) (P : Nat → Value → Prop) (St : Nat → Heap → Prop), Draws prog w A it [it, l] n P St ∧ St i h ∧ i ≤ n ∧ (items[i]? = none → i = n) := by
  cases e : items[i]? with
  | none => exact ⟨i, _, _, drawsEnd hh it l hne items i e, ⟨rfl, s1, s2⟩, Nat.le_refl _, fun _ => rfl⟩
  | some v => exact ⟨items.size, _, _, Draws.list hh it l hne items, ⟨s1, s2⟩, Nat.le_of_lt (Array.getElem?_eq_some_iff.mp e).1, fun z => by cases z⟩
structure Z3 (z TI TO i1 i2 i3 a b c : Addr) : Prop where
  TIz : TI ≠ z
  TOz : TO ≠ z
  TITO : TI ≠ TO
  TIi1 : TI ≠ i1
  TIi2 : TI ≠ i2
  TIi3 : TI ≠ i3
  TOi1 : TO ≠ i1
  TOi2 : TO ≠ i2
  TOi3 : TO ≠ i3
  i1z : i1 ≠ z
  i2z : i2 ≠ z
  i3z : i3 ≠ z
  i12 : i1 ≠ i2
  i13 : i1 ≠ i3
  i23 : i2 ≠ i3
  az : a ≠ z
  bz : b ≠ z
  cz : c ≠ z
  aT : a ≠ TO
  bT : b ≠ TO
  cT : c ≠ TO
  a1 : a ≠ i1
  a2 : a ≠ i2
  a3 : a ≠ i3
  b1 : b ≠ i1
  b2 : b ≠ i2
  b3 : b ≠ i3
  c1 : c ≠ i1
  c2 : c ≠ i2
  c3 : c ≠ i3
theorem Z3.sep {z TI TO i1 i2 i3 a b c : Addr} (D : Z3 z TI TO i1 i2 i3 a b c) : ZipSep3 z TI TO i1 i2 i3 [i1, a] [i2, b] [i3, c] := by
  have no : ∀ {x y u : Addr}, x ≠ y → x ≠ u → x ∉ [y, u] := fun h1 h2 z => by
    rcases List.mem_cons.mp z with e | e
    · exact h1 e
    · exact h2 (List.mem_singleton.mp e)
  exact ⟨D.TIz, D.TOz, D.TITO, D.TIi1, by simp, no D.i1z.symm D.az.symm, no D.TOi1 D.aT.symm, D.TIi2, by simp, no D.i2z.symm D.bz.symm, no D.TOi2 D.bT.symm, D.TIi3, by simp, no D.i3z.symm D.cz.symm, no D.TOi3 D.cT.symm,
    no D.i12 D.b1.symm, no D.i13 D.c1.symm, no D.i12.symm D.a2.symm, no D.i23 D.c2.symm, no D.i13.symm D.a3.symm, no D.i23.symm D.b3.symm⟩
def Itz3 (K : PySem.W.Frag) (a b c : Addr) : It :=
  ⟨fun i H => ∃ (xs ys zs : List V) (x y u : V), SqL K H a xs ∧ SqL K H b ys ∧ SqL K H c zs ∧ xs[i]? = some x ∧ ys[i]? = some y ∧ zs[i]? = some u,
    fun i H v H' => ∃ T x y u, v = .ref T ∧ H T = none ∧ H' = upd H T (.tup [x, y, u]) ∧ (∀ xs, SqL K H a xs → xs[i]? = some x) ∧ (∀ ys, SqL K H b ys → ys[i]? = some y) ∧ ∀ zs, SqL K H c zs → zs[i]? = some u,
    fun i H => ∃ xs ys zs : List V, SqL K H a xs ∧ SqL K H b ys ∧ SqL K H c zs ∧ (xs.length ≤ i ∨ ys.length ≤ i ∨ zs.length ≤ i)⟩
theorem turn_zip3 {P : Program} {w : World} {K : PySem.W.Frag} {elts : List Expr} {kk : Nat} {tpos : Pos} {a b c z TI TO i1 i2 i3 : Addr} (D : Z3 z TI TO i1 i2 i3 a b c) :
    Turn P w K (.Tuple elts kk tpos) (Itz3 K a b c) [z, TI, TO, i1, i2, i3] z (fun i h => IsZip h z TI TO .none ∧ IsTupOf3 h TI (.ref i1) (.ref i2) (.ref i3) ∧ (∃ x y u, IsTupOf3 h TO x y u) ∧ h.IsListIter i1 a i ∧ h.IsListIter i2 b i ∧ h.IsListIter i3 c i) where
  mem := by simp
  obj := fun i h st d hc => by
    obtain ⟨hz, hTI, ⟨x, y, u, hTO⟩, ⟨o1, e1, _, d1⟩, ⟨o2, e2, _, d2⟩, ⟨o3, e3, _, d3⟩⟩ := st
    have e' : d = z ∨ d = TI ∨ d = TO ∨ d = i1 ∨ d = i2 ∨ d = i3 := by simpa using hc
    rcases e' with q | q | q | q | q | q
    · rw [q]; exact ⟨_, hz, fun v q => nomatch q⟩
    · rw [q]; exact ⟨_, hTI, fun v q => nomatch q⟩
    · rw [q]; exact ⟨_, hTO, fun v q => nomatch q⟩
    · rw [q]; exact ⟨o1, e1, fun v q => by rw [d1] at q; cases q⟩
    · rw [q]; exact ⟨o2, e2, fun v q => by rw [d2] at q; cases q⟩
    · rw [q]; exact ⟨o3, e3, fun v q => by rw [d3] at q; cases q⟩
  keep := fun i h h' st k => by
    obtain ⟨hz, hTI, ⟨x, y, u, hTO⟩, h1, h2, h3⟩ := st
    exact ⟨k z (by simp) _ hz, k TI (by simp) _ hTI, ⟨x, y, u, k TO (by simp) _ hTO⟩, h1.at fun o q => k i1 (by simp) o q, h2.at fun o q => k i2 (by simp) o q, h3.at fun o q => k i3 (by simp) o q⟩
  item := by
    intro X hP hw hK hc i pins s σ H E I hf st hg
    subst hP hw hK
    obtain ⟨hz, hTI, ⟨x0, y0, u0, hTO⟩, h1, h2, h3⟩ := st
    obtain ⟨xs, ys, zs, x, y, v, hqx, hqy, hqz, hx, hy, hv⟩ := hg
    obtain ⟨its, rv, p, _⟩ := I.list hqx
    obtain ⟨its2, rv2, p2, _⟩ := I.list hqy
    obtain ⟨its3, rv3, p3, _⟩ := I.list hqz
    obtain ⟨u, hu, ru⟩ := rv.get hx
    obtain ⟨u2, hu2, ru2⟩ := rv2.get hy
    obtain ⟨u3, hu3, ru3⟩ := rv3.get hv
    have hzl : z < s.heap.objs.size := Heap.lt_size hz
    have l1 : i < its.toArray.size := by have := (List.getElem?_eq_some_iff.mp hu).1; simpa using this
    have l2 : i < its2.toArray.size := by have := (List.getElem?_eq_some_iff.mp hu2).1; simpa using this
    have l3 : i < its3.toArray.size := by have := (List.getElem?_eq_some_iff.mp hu3).1; simpa using this
    have hh : X.A.in1.handled = none := I.ok.hd hc
    refine wpAny_pyNext_zipD3_item D.sep (Draws.list (A := X.A.in1) (prog := X.prog) (w := X.w) hh i1 a D.a1 its.toArray) (Draws.list (A := X.A.in1) (prog := X.prog) (w := X.w) hh i2 b D.b2 its2.toArray) (Draws.list (A := X.A.in1) (prog := X.prog) (w := X.w) hh i3 c D.c3 its3.toArray) hz hTI hTO ⟨h1, p.isList⟩ ⟨h2, p2.isList⟩ ⟨h3, p3.isList⟩ l1 l2 l3
      fun x1 x2 x3 h' tk y1 y2 y3 z' TO' st1 st2 st3 hT hsz hk => ?_
    have ex1 : x1 = u := by
      have : its[i]? = some x1 := by simpa using y1
      rw [hu] at this
      exact (Option.some.inj this).symm
    have ex2 : x2 = u2 := by
      have : its2[i]? = some x2 := by simpa using y2
      rw [hu2] at this
      exact (Option.some.inj this).symm
    have ex3 : x3 = u3 := by
      have : its3[i]? = some x3 := by simpa using y3
      rw [hu3] at this
      exact (Option.some.inj this).symm
    subst ex1 ex2 ex3
    refine ⟨_, rfl, wpAny_letOwnedTupleGo_zip (s := { s with heap := h', toks := tk }) z' fun h'' z'' sb => ?_⟩
    have hT2 : h''.get? s.heap.objs.size = some { cls := .type "tuple", data := .seq #[x1, x2, x3] } := (sb.2 _ (Nat.ne_of_gt hzl)).trans hT
    have new : ObjOk X.prog X.w (upd H s.heap.objs.size (.tup [x, y, v])) h'' s.heap.objs.size (.tup [x, y, v]) :=
      ⟨by show 3 ≤ sizeLine; decide, [x1, x2, x3], .cons ru (.cons ru2 (.cons ru3 .nil)), ⟨_, hT2, rfl, _, rfl⟩⟩
    have I1 : Inv X pins σ (upd H s.heap.objs.size (.tup [x, y, v])) { s with heap := h'', toks := tk } :=
      I.turnedNew (t' := tk) (ch := [z, TI, TO, i1, i2, i3]) (fun d o hb q => (sb.2 d (fun q' => hb (by simp [q']))).trans (hk d o (fun q' => hb (by simp [q'])) (fun q' => hb (by simp [q'])) (fun q' => hb (by simp [q'])) (fun q' => hb (by simp [q'])) (fun q' => hb (by simp [q'])) q)) hf (Nat.le_refl _) new
    refine ⟨.ref s.heap.objs.size, _, I1, rfl, ⟨_, x, y, v, rfl, I.hok.fresh (Nat.le_refl _), rfl, fun l hl => by rw [I.list_inj hl hqx]; exact hx, fun l hl => by rw [I.list_inj hl hqy]; exact hy, fun l hl => by rw [I.list_inj hl hqz]; exact hv⟩, ⟨z'', ?_, ⟨x1, x2, x3, ?_⟩, ?_, ?_, ?_⟩, fun d hcm => ?_⟩
    · exact (sb.2 _ D.TIz).trans (hk _ _ D.TIz D.TITO D.TIi1 D.TIi2 D.TIi3 hTI)
    · exact (sb.2 _ D.TOz).trans TO'
    · exact st1.1.at fun o q => (sb.2 _ D.i1z).trans q
    · exact st2.1.at fun o q => (sb.2 _ D.i2z).trans q
    · exact st3.1.at fun o q => (sb.2 _ D.i3z).trans q
    · have hlt : d < s.heap.objs.size := by
        have e' : d = z ∨ d = TI ∨ d = TO ∨ d = i1 ∨ d = i2 ∨ d = i3 := by simpa using hcm
        rcases e' with q | q | q | q | q | q
        · rw [q]; exact hzl
        · rw [q]; exact Heap.lt_size hTI
        · rw [q]; exact Heap.lt_size hTO
        · rw [q]; obtain ⟨_, e1, _⟩ := h1; exact Heap.lt_size e1
        · rw [q]; obtain ⟨_, e2, _⟩ := h2; exact Heap.lt_size e2
        · rw [q]; obtain ⟨_, e3, _⟩ := h3; exact Heap.lt_size e3
      rw [upd_ne (Nat.ne_of_lt hlt)]
      exact (hf d hcm).1
  done := by
    intro X hP hw hK hc i pins s σ H E I hf st hg
    subst hP hw hK
    obtain ⟨hz, hTI, ⟨x0, y0, u0, hTO⟩, h1, h2, h3⟩ := st
    obtain ⟨xs, ys, zs, hqx, hqy, hqz, hend⟩ := hg
    obtain ⟨its, rv, p, _⟩ := I.list hqx
    obtain ⟨its2, rv2, p2, _⟩ := I.list hqy
    obtain ⟨its3, rv3, p3, _⟩ := I.list hqz
    have l1 := rv.length
    have l2 := rv2.length
    have l3 := rv3.length
    have hh : X.A.in1.handled = none := I.ok.hd hc
    obtain ⟨n1, P1, St1, D1, s1, e1, f1⟩ := drawsAt (prog := X.prog) (w := X.w) hh i1 a D.a1 its.toArray i h1 p.isList
    obtain ⟨n2, P2, St2, D2, s2, e2, f2⟩ := drawsAt (prog := X.prog) (w := X.w) hh i2 b D.b2 its2.toArray i h2 p2.isList
    obtain ⟨n3, P3, St3, D3, s3, e3, f3⟩ := drawsAt (prog := X.prog) (w := X.w) hh i3 c D.c3 its3.toArray i h3 p3.isList
    have he : i = n1 ∨ i = n2 ∨ i = n3 := by
      rcases hend with q | q | q
      · exact .inl (f1 (by simp; omega))
      · exact .inr (.inl (f2 (by simp; omega)))
      · exact .inr (.inr (f3 (by simp; omega)))
    exact wpAny_pyNext_zipD3_end D.sep D1 D2 D3 hz hTI hTO s1 s2 s3 e1 e2 e3 he fun h' tk hk => ⟨rfl, I.turnedL (t' := tk) (ch := [z, TI, TO, i1, i2, i3]) (fun d o hb q =>
      hk d o (fun q' => hb (by simp [q'])) (fun q' => hb (by simp [q'])) (fun q' => hb (by simp [q'])) (fun q' => hb (by simp [q'])) (fun q' => hb (by simp [q'])) q) hf⟩
  self := fun A i s Q E st h => wpAny_pyIter_zip st.1 h
def iZip3 (K : PySem.W.Frag) (ta : TA) : TI := fun σ H R => ta σ H fun vs H1 => ∃ a b c xs ys zs, vs = [.ref a, .ref b, .ref c] ∧ SqL K H1 a xs ∧ SqL K H1 b ys ∧ SqL K H1 c zs ∧ R (Itz3 K a b c) H1
theorem z3_new {n a b c : Nat} (ha : a < n) (hb : b < n) (hc : c < n) : Z3 (n + 5) (n + 3) (n + 4) n (n + 1) (n + 2) a b c := by
  constructor <;> (show @Ne Nat _ _) <;> omega
theorem pi_zip3 {X : Cx} {e e2 e3 : Expr} {ta : TA} {p pos tpos : Pos} {elts : List Expr} {kk : Nat} (hg : Gl X "zip") (hm : X.mg "zip" = none) (ha : PA X [e, e2, e3] ta)
    (hs : starEach [e, e2, e3] X.env = (false, eval e X.env) :: starEach [e2, e3] X.env := by rfl) (hpl : (backTo pos (starEach [e2, e3] X.env)).any (·.1) = false := by rfl) :
    PI X (.Tuple elts kk tpos) (.Call (.Name "zip" p) [e, e2, e3] [] pos) (iZip3 X.K ta) := by
  refine ⟨fun pins s σ H R I h => ?_⟩
  refine Call_ (ld_blt I hg hm PyProof.Rows.boot_zip (PyProof.Rows.callWith_type1 (thn (ha.run pos pins s σ H _ I h) fun us s1 ⟨vs, H1, I1, r1, q1⟩ => ?_) hs hpl))
  obtain ⟨a, b, c, xs, ys, zs, ex, hqx, hqy, hqz, q⟩ := q1
  subst ex
  cases r1 with
  | cons r rr =>
    cases rr with
    | cons r' rr =>
      cases rr with
      | cons r'' rr =>
        cases rr
        cases r
        cases r'
        cases r''
        obtain ⟨its, rv, p1, _⟩ := I1.list hqx
        obtain ⟨its2, rv2, p2, _⟩ := I1.list hqy
        obtain ⟨its3, rv3, p3, _⟩ := I1.list hqz
        refine zip_begins3 (begins_list a its.toArray) (begins_list b its2.toArray) (begins_list c its3.toArray) p1.isList p2.isList p3.isList fun h' hz hTI hTO g1 g2 g3 hsz hk => wpAny_pyIter_zip hz ?_
        have I2 : Inv X pins σ H1 { s1 with heap := h' } := I1.kept (t' := s1.toks) hk
        refine ⟨s1.heap.objs.size + 5, [s1.heap.objs.size + 5, s1.heap.objs.size + 3, s1.heap.objs.size + 4, s1.heap.objs.size, s1.heap.objs.size + 1, s1.heap.objs.size + 2], _, _, H1, rfl, I2, turn_zip3 (z3_new p1.lt p2.lt p3.lt), ⟨hz, hTI, ⟨_, _, _, hTO⟩, ⟨_, g1, rfl, rfl⟩, ⟨_, g2, rfl, rfl⟩, ⟨_, g3, rfl, rfl⟩⟩, fun d hcm => ?_, q⟩
        have e' : d = s1.heap.objs.size + 5 ∨ d = s1.heap.objs.size + 3 ∨ d = s1.heap.objs.size + 4 ∨ d = s1.heap.objs.size ∨ d = s1.heap.objs.size + 1 ∨ d = s1.heap.objs.size + 2 := by simpa using hcm
        have hle : s1.heap.objs.size ≤ d := by
          rcases e' with z | z | z | z | z | z
          · rw [z]; exact Nat.le_add_right _ _
          · rw [z]; exact Nat.le_add_right _ _
          · rw [z]; exact Nat.le_add_right _ _
          · rw [z]; exact Nat.le_refl _
          · rw [z]; exact Nat.le_add_right _ _
          · rw [z]; exact Nat.le_add_right _ _
        exact I1.fpOk hle (I1.hok.fresh hle)
end L2
namespace Mr
open PySem PySem.Spec PyProof.Rows L2
def zipV3 (xs ys zs : List Val) : List Val := List.zipWith (fun x (yz : Val × Val) => .tup [x, yz.1, yz.2]) xs (List.zipWith Prod.mk ys zs)
def mZip3 (t : MA) : MI := fun sl => bnd (t sl) fun vs => match vs with
  | [v, w, u] => bnd (fzI v) fun xs => bnd (fzI w) fun ys => bnd (fzI u) fun zs => ret (zipV3 xs ys zs)
  | _ => fail
section
variable {X : Cx} {W : WX} {K : KK}
theorem itr_zip3 {r : Rg} {H : Hp} {a b c : Addr} {xs ys zs : List Val} (l : LsP K r H a xs) (l' : LsP K r H b ys) (l'' : LsP K r H c zs) : ItR K r H (Itz3 K a b c) (zipV3 xs ys zs) := by
  intro r1 h1 H1 k g R
  obtain ⟨us, s, t⟩ := l r1 H1 g
  obtain ⟨ws, s', t'⟩ := l' r1 H1 g
  obtain ⟨qs, s'', t''⟩ := l'' r1 H1 g
  unfold zipV3
  rw [List.getElem?_zipWith, List.getElem?_zipWith]
  cases q2 : xs[k]? with
  | none => exact ⟨fun _ => ⟨us, ws, qs, s, s', s'', .inl (by rw [t.length]; exact List.getElem?_eq_none_iff.mp q2)⟩, fun v e => by cases e⟩
  | some x =>
    cases q3 : ys[k]? with
    | none => exact ⟨fun _ => ⟨us, ws, qs, s, s', s'', .inr (.inl (by rw [t'.length]; exact List.getElem?_eq_none_iff.mp q3))⟩, fun v e => by cases e⟩
    | some y =>
      cases q4 : zs[k]? with
      | none => exact ⟨fun _ => ⟨us, ws, qs, s, s', s'', .inr (.inr (by rw [t''.length]; exact List.getElem?_eq_none_iff.mp q4))⟩, fun v e => by cases e⟩
      | some z =>
        refine ⟨fun e => (by cases e), fun v e => ?_⟩
        cases e
        obtain ⟨u, f1, f2⟩ := t.get q2
        obtain ⟨w, f3, f4⟩ := t'.get q3
        obtain ⟨q, f5, f6⟩ := t''.get q4
        refine ⟨⟨us, ws, qs, u, w, q, s, s', s'', f1, f3, f5⟩, fun x' H' y' => ?_⟩
        obtain ⟨T, x1, x2, x3, rfl, nT, rfl, z1, z2, z3⟩ := y'
        have e2 := z1 us s
        rw [f1] at e2
        cases e2
        have e3 := z2 ws s'
        rw [f3] at e3
        cases e3
        have e4 := z3 qs s''
        rw [f5] at e4
        cases e4
        have g2 : Go r1 H1 r1 (upd H1 T (.tup [u, w, q])) := go_new nT
        exact ⟨g2, R.newu nT, .tup (SqT.of upd_same) (.cons (f2.go g2) (.cons (f4.go g2) (.cons (f6.go g2) .nil)))⟩
theorem si_zip3 {a b c : Expr} {t : MA} {p pos tpos : Pos} {elts : List Expr} {kk : Nat} (hm : X.mg "zip" = none) (ha : SA X W [a, b, c] t) (hg : Gl X "zip" := by rfl) (hs : starEach [a, b, c] X.env = (false, eval a X.env) :: starEach [b, c] X.env := by rfl) (hpl : (backTo pos (starEach [b, c] X.env)).any (·.1) = false := by rfl) : SI X W (.Tuple elts kk tpos) (.Call (.Name "zip" p) [a, b, c] [] pos) (mZip3 t) := PI.imp (pi_zip3 hg hm ha hs hpl) fun s H Q ⟨r, h, sl, R, S, o⟩ => by
  refine ⟨r, h, sl, R, S, o.split.mono fun vs r1 h1 H1 g1 R1 o1 us q1 => ?_⟩
  match vs, o1 with
  | [v, w, x], o1 =>
    cases q1 with
    | cons qa q1 =>
      cases q1 with
      | cons qb q1 =>
        cases q1 with
        | cons qc q1 =>
          cases q1
          obtain ⟨a, xs, r2, h2, rfl, g2, R2, l, k⟩ := fzI_ok R1 qa (Out.split o1)
          obtain ⟨b, ys, r3, h3, rfl, g3, R3, l', k'⟩ := fzI_ok R2 (qb.go g2) (Out.split k)
          obtain ⟨c, zs, r4, h4, rfl, g4, R4, l'', k''⟩ := fzI_ok R3 (qc.go (g2.trans g3)) (Out.split k')
          have l1 : LsP X.kk r4 H1 a xs := fun r' H' g => l r' H' ((g3.toVo.trans g4.toVo).trans g)
          have l2 : LsP X.kk r4 H1 b ys := fun r' H' g => l' r' H' (g4.toVo.trans g)
          obtain ⟨us, s', t⟩ := l1 r4 H1 (Vo.refl _ _)
          obtain ⟨ws, s'', t'⟩ := l2 r4 H1 (Vo.refl _ _)
          obtain ⟨qs, s3, t3⟩ := l'' r4 H1 (Vo.refl _ _)
          exact ⟨a, b, c, us, ws, qs, rfl, s', s'', s3, k''.now R4 _ (itr_zip3 l1 l2 l'')⟩
end
end Mr

set_option Elab.async false
set_option linter.all false
set_option maxRecDepth 100000
set_option maxHeartbeats 1000000
namespace Mr
open PySem PySem.Spec PyProof.Rows L2
/-- isinstance(x, (c1, c2, ..)), x one of the own errors -/
theorem call_isKT {X : Cx} : CallR X (.builtin "isinstance") (fun xs H Q => ∃ (a C d : Addr) (fs : List (Str × V)) (tp : Addr) (cs : List V) (ws : List Value) (b : Bool), xs = [.ref a, .ref tp] ∧ KxAt H a C d fs ∧ ExcC X.K C ∧ H tp = some (.tup cs) ∧ Paired ClsV cs ws ∧ PySem.W.kitAny X.K (.ref C) ws = some b ∧ Q (.bl b) H) := by
  intro pins s σ H xs us Q I r h
  obtain ⟨a, C, d, fs, tp, cs, ws, b, rfl, k, T, hT, pc, e, q⟩ := h
  cases r with
  | cons rx rr =>
    cases rr with
    | cons rt rr =>
      cases rr
      cases rx
      rename_i u2
      cases (show u2 = Value.ref tp from rt)
      obtain ⟨ox, od, mA, J, -⟩ := k.inst I
      have hcl : (PySem.W.clsIn X.K C).isSome = true := by
        obtain ⟨cd, hc, _⟩ := PySem.W.any_some T.hd
        rw [hc]; rfl
      obtain ⟨_, its, rv, o, h1, h2, n, h3⟩ := (show ObjOk X.prog X.w H s.heap tp (.tup cs) from I.hok tp _ hT)
      have e3 := ClsV.all pc rv
      subst e3
      obtain ⟨oc, od', dt, sl⟩ := o
      simp only at h2 h3
      subst h2 h3
      exact PySem.W.kia_tup (PySem.W.kitx_exc hcl T.hg T.hk T.hs T.ha T.hn T.ht T.hm) I.kIn J h1 e (fun z => nomatch z) fun tk => ⟨.bl b, H, I.kept (t' := tk) fun _ _ z => z, rfl, q⟩
theorem paired_own : ∀ Ds : List Addr, Paired ClsV (Ds.map V.ref) (Ds.map Value.ref)
  | [] => .nil
  | D :: Ds => .cons (.own D) (paired_own Ds)
section
variable {X : Cx} {W : WX} {e : Expr} {es : List Expr} {m : ME} {p pos tpos : Pos} {kk : Nat}
theorem se_isCT {Ds : List Addr} {tab : Str → Option Bool} (hm : X.mg "isinstance" = none) (hp : PA X es (fun _ H Q => Q (Ds.map V.ref) H)) (hz : Ds.length ≤ 8)
    (hk : ∀ c C b, tab c = some b → X.kk.ct c = some C → ExcC X.K C ∧ PySem.W.kitAny X.K (.ref C) (Ds.map Value.ref) = some b) (hn : PySem.W.kitAny X.K (.type "NoneType") (Ds.map Value.ref) = some false) (he : SE X W e m)
    (hg : Gl X "isinstance" := by rfl)
    (hs : starEach [e, .Tuple es kk tpos] X.env = (false, eval e X.env) :: starEach [.Tuple es kk tpos] X.env := by rfl) (hs2 : starEach [.Tuple es kk tpos] X.env = (false, eval (.Tuple es kk tpos) X.env) :: starEach [] X.env := by rfl) (hpl : (backTo pos (starEach [.Tuple es kk tpos] X.env)).any (·.1) = false := by rfl) :
    SE X W (.Call (.Name "isinstance" p) [e, .Tuple es kk tpos] [] pos) (mIsC tab m) := by
  have pc : PA X [e, .Tuple es kk tpos] (tCons (tE X.kk W m) (tCons (tTup (fun _ H Q => Q (Ds.map V.ref) H)) tNil)) := pa_cons he (pa_cons (pe_tup hp) pa_nil hs2) hs
  have p1 := pe_callB (p := p) call_isKT hg hm (by decide +kernel) pc (by decide) (by decide) hs hpl
  have p3 := pe_callB (p := p) call_isiT hg hm (by decide +kernel) pc (by decide) (by decide) hs hpl
  have hl : (Ds.map V.ref).length ≤ sizeLine := by rw [List.length_map, sizeLine_eq]; omega
  refine ⟨fun pins s σ H Q I z => ?_⟩
  obtain ⟨r, h, sl, R, S, o⟩ := z
  unfold mIsC mUn bnd at o
  cases q0 : m sl h with
  | bad => rw [q0] at o; exact o.elim
  | exc c f v h1 =>
    rw [q0] at o
    exact p3.run pins s σ H Q I ⟨r, h, sl, R, S, by rw [q0]; exact o⟩
  | ok x h1 =>
    rw [q0] at o
    dsimp only at o
    obtain ⟨v, e1, k⟩ := o.lft
    unfold isCV at e1
    split at e1
    · rename_i c fld y
      cases q2 : tab c with
      | none => rw [q2] at e1; cases e1
      | some b =>
        rw [q2] at e1
        cases e1
        refine p1.run pins s σ H Q I ⟨r, h, sl, R, S, ?_⟩
        rw [q0]
        intro r1 H1 g1 R1 u q1
        refine ⟨hl, fun tp np => ?_⟩
        have g2 : Go r1 H1 r1 (upd H1 tp (.tup (Ds.map V.ref))) := go_new np
        have R2 := R1.newu (u := .tup (Ds.map V.ref)) np
        have q1' := q1.go g2
        cases q1' with
        | ex hct kx q =>
          obtain ⟨T, ko⟩ := hk _ _ _ q2 hct
          exact ⟨_, _, _, _, tp, _, _, b, rfl, kx, T, upd_same, paired_own Ds, ko, k r1 _ (g1.trans g2) R2 _ (.bl b)⟩
    · cases e1
      refine p3.run pins s σ H Q I ⟨r, h, sl, R, S, ?_⟩
      rw [q0]
      intro r1 H1 g1 R1 u q1
      refine ⟨hl, fun tp np => ?_⟩
      have g2 : Go r1 H1 r1 (upd H1 tp (.tup (Ds.map V.ref))) := go_new np
      have R2 := R1.newu (u := .tup (Ds.map V.ref)) np
      cases q1
      exact ⟨.non, tp, _, .type "NoneType", _, false, rfl, upd_same, paired_own Ds, .base .non, hn, k r1 _ (g1.trans g2) R2 _ (.bl false)⟩
    · cases e1
/-! ### extend -/
def fExtend (x : Val) (ys : List Val) (h : AH) : Option (Val × AH) := match x, ys with
  | .ref n, [.fl zs] => (match mutAt h n with
    | some xs => if sizeOk (xs.length + zs.length) then some (.non, h.set n (.lst (xs ++ zs))) else none
    | none => none)
  | _, _ => none
theorem mm_extend {K : KK} : MeH K rExtend fExtend := by
  intro r h H x xs u us z h' Q R qx qs e k
  unfold fExtend at e
  split at e
  · rename_i n zs
    cases qx with
    | @ref _ _ _ a ea =>
      obtain ⟨w, rfl, qy⟩ := qs.one
      cases qy with
      | fl _ ez tz =>
        split at e
        · rename_i ys q
          split at e
          · rename_i hl
            cases e
            obtain ⟨f0, ws, f1, f2⟩ := R.mut q ea
            refine ⟨a, _, ws, _, rfl, rfl, f1, ez, ?_, ?_⟩
            · have := sizeOk_le hl
              rw [f2.length, tz.length]
              exact this
            · exact cn_set (Q := fun H' => Q .non H') R ea f0 f1 (f2.append tz.up) fun H' g R' => k r H' g R' .non .non
          · cases e
        · cases e
  · cases e
theorem se_extend {o e : Expr} {mo : ME} {mt : MA} {apos cpos : Pos} (ho : SE X W o mo) (ha : SA X W [e] mt)
    (hbase : attributeBase o "extend" X.env (eval o X.env) = eval o X.env := by rfl)
    (hfew : ((backTo cpos (starEach [e] X.env)).all (fun x => !x.1) && (backToKw cpos (keywordEach [] X.env)).all (fun x => x.1.isSome)
      && decide ([e].length + ([] : List Keyword).length + (if ([] : List Keyword).isEmpty then 0 else 1) < 30)) = true := by rfl)
    (hline : (apos.endLine == cpos.line) = true := by rfl) (hs : starEach [e] X.env = (false, eval e X.env) :: starEach [] X.env := by rfl) (hplain : (backTo cpos (starEach [] X.env)).any (·.1) = false := by rfl) :
    SE X W (.Call (.Attribute o "extend" apos) [e] [] cpos) (mMethH "list" fExtend mo mt) :=
  se_methH PySem.F.plainAttrs_list PySem.F.slot_list_extend PySem.F.type_list_extend mt_extend mm_extend ho ha hbase hfew hline hs hplain
end
end Mr

set_option Elab.async false
set_option linter.all false
set_option maxRecDepth 100000
set_option maxHeartbeats 1000000
namespace Mr
open PySem PySem.Spec PyProof.Rows L2
/-! ### *range(..) in a display -/
section
variable {prog : Program} {w : World} {A : Around} {E : Value → Shared → Prop} {s : Shared}
theorem wpAny_collect_rng {Q : List Value → Shared → Prop} {r : Addr} {a b c : Int} {t u v : Tok} {n : Nat} (hh : A.handled = none) (hr : IsRange s.heap r a b c t u v) (hsmall : Builtin.Range.small a b c = true)
    (hn : Builtin.Range.rangeSize a b c = n) (hlen : n ≤ 2 ^ 24)
    (hQ : ∀ h' tk acc, (∀ b o, s.heap.get? b = some o → h'.get? b = some o) → ItemsOf (fun i v => ∃ t, v = .int (a + i * c) t) acc n → Q acc.toList { s with heap := h', toks := tk }) :
    wpAny (model prog w) A (collect (.ref r)) Q E s := by
  unfold collect
  refine wpAny_bind (wpAny_runValue (codeAny_builtin F.entry_proto_collect ?_))
  rw [Around.under_plainId F.plain_proto_collect _]
  show wpAny _ A.in1 (newList [] >>= fun l => again (.builtin "list.__iadd__" ⟨[l, .ref r], []⟩)) _ _ s
  refine wpAny_bind (wpAny_newObj_type ?_)
  refine wpAny_pure ⟨plainId_quiet F.plain_list_iadd _, codeAny_builtin F.entry_list_iadd ?_⟩
  rw [Around.under_plainId F.plain_list_iadd _]
  show wpAny _ A.in1 (Builtin.List.listExtendWith (.ref s.heap.objs.size) (.ref r) (.ref s.heap.objs.size)) _ _ _
  have hS : (s.heap.push { cls := .type "list", data := .seq ([] : List Value).toArray }).get? s.heap.objs.size = some { cls := .type "list", data := .seq ([] : List Value).toArray } := Heap.get?_push_size _ rfl
  refine wpAny_extend_range (A := A) (R := fun r s' => match r with
    | .ok (.ret v) => wpAny (model prog w) A (match v with
      | .ref a => do
        let o ← load a
        match o.data with
        | .seq xs _ => pure xs.toList
        | _ => unsupported "internal:collect"
      | _ => unsupported "internal:collect") Q E s'
    | .ok _ => False
    | .error e => E e s') (s := { s with heap := s.heap.push { cls := .type "list", data := .seq ([] : List Value).toArray } }) hh (Heap.get?_push_of_some _ hr) hsmall hn hlen _ _ _ hS fun h' tk acc' c' hk hS' hacc => ?_
  show wpAny _ A (load s.heap.objs.size >>= _) _ _ _
  refine wpAny_bind (wpAny_load hS' ?_)
  refine wpAny_pure (hQ h' tk acc' (fun b o e => hk b o (Nat.ne_of_lt (Heap.lt_size e)) (Heap.get?_push_of_some _ e)) hacc)
end
section
variable {X : Cx} {W : WX} {K : KK} {a b e : Expr} {es : List Expr} {ma mb : ME} {mt : MA} {p p2 pos2 : Pos} {t : TA} {te : L2.St → Hp → (Int → Int → Hp → Prop) → Prop}
def tStarRg (te : L2.St → Hp → (Int → Int → Hp → Prop) → Prop) (t : TA) : TA := fun σ H Q => te σ H fun a b H1 => RgOk a b ∧ t σ H1 fun ys H2 => Q (rgV a b ++ ys) H2
theorem pa_starRg (hc : X.calm = true) (he : PRg X e te) (hr : PA X es t) (hs : starEach (.Starred e p :: es) X.env = (true, eval e X.env) :: starEach es X.env := by rfl) : PA X (.Starred e p :: es) (tStarRg te t) := by
  refine ⟨fun pos pins s σ H Q I h => ?_⟩
  refine PySem.W.items_star (thn (he pins s σ H _ I h) fun x s1 ⟨r, a, b, t0, u0, v0, H1, ex, hrg, I1, ok, q⟩ => ?_) hs
  subst ex
  obtain ⟨b1, b2, b3, b4, b5⟩ := ok
  have hT : s1.TypeIs (.ref r) "range" := ⟨_, hrg, rfl⟩
  have z : wpAny (model X.prog X.w) X.A (collect (.ref r)) (fun here s2 => wpAny (model X.prog X.w) X.A (spliced (backTo pos (starEach es X.env))) (fun vs s3 => (fun us s' => ∃ vs' H', Inv X pins σ H' s' ∧ Vals vs' us ∧ Q vs' H') (here ++ vs) s3) X.xe s2) X.xe s1 := by
    refine wpAny_collect_rng (n := (b - a).toNat) (I1.ok.hd hc) hrg (small_one b1 b2 b3 b4) (rangeSize_nat a b) b5 fun h' tk acc hk hi => ?_
    have I2 : Inv X pins σ H1 { s1 with heap := h', toks := tk } := I1.kept hk
    exact thn (hr.run pos pins _ σ H1 _ I2 q) fun ws s3 ⟨vs, H3, I3, r3, q3⟩ => ⟨rgV a b ++ vs, H3, I3, (vals_rg hi).append r3, q3⟩
  unfold PySem.W.StarOf notIterableAtAll
  exact wpAny_bind (wpAny_specialOf hT PySem.F.slot_range_iter.lookup (wpAny_pure ⟨rfl, z⟩))
/-- *range(j), *range(i, j) -/
def mSRng (r : MN) (t : MA) : MA := fun sl => bnd (r sl) fun z => bnd (t sl) fun ys => match z with
  | .n xs => ret (xs ++ ys)
  | .v _ => fail
theorem sa_srng1 {pos2 : Pos} (hc : X.calm = true) (hm2 : X.mg "range" = none) (ha : SE X W a ma) (hr : SA X W es mt) (hg2 : Gl X "range" := by rfl) (na2 : starEach [a] X.env = (false, eval a X.env) :: starEach [] X.env := by rfl)
    (hs : starEach (.Starred (.Call (.Name "range" p2) [a] [] pos2) p :: es) X.env = (true, eval (.Call (.Name "range" p2) [a] [] pos2) X.env) :: starEach es X.env := by rfl) :
    SA X W (.Starred (.Call (.Name "range" p2) [a] [] pos2) p :: es) (mSRng (mLRng1 ma) mt) := PA.imp (pa_starRg hc (prg_1 hg2 hm2 ha na2) hr hs) fun s H Q ⟨r, h, sl, R, S, o1⟩ => by
  refine ⟨r, h, sl, R, S, (Out.split (Out.split o1)).mono fun x r1 h1 H1 g1 R1 o2 u q1 => ?_⟩
  obtain ⟨v, e, k⟩ := o2.lft
  split at e
  · split at e
    · rename_i hj
      cases e
      cases q1
      have hq := Bool.and_eq_true_iff.mp hj
      have h1 := rngOk_ok hq.1
      have h2 := of_decide_eq_true hq.2
      refine ⟨_, rfl, ⟨by omega, by omega, h1.1, h1.2, by omega⟩, r1, _, sl, R1, S.go g1, (Out.split (k r1 H1 (Go.refl _ _) R1)).mono fun ys r2 h2 H2 g2 R2 o3 ws q2 => ?_⟩
      exact o3.now R2 _ ((rgV_rv0 _).append q2)
    · cases e
  · cases e
theorem sa_srng2 {pos2 : Pos} (hc : X.calm = true) (hm2 : X.mg "range" = none) (ha : SE X W a ma) (hb : SE X W b mb) (hr : SA X W es mt) (hg2 : Gl X "range" := by rfl) (na2 : starEach [a, b] X.env = (false, eval a X.env) :: starEach [b] X.env := by rfl)
    (nb : starEach [b] X.env = (false, eval b X.env) :: starEach [] X.env := by rfl) (hp : (backTo pos2 (starEach [b] X.env)).any (·.1) = false := by rfl)
    (hs : starEach (.Starred (.Call (.Name "range" p2) [a, b] [] pos2) p :: es) X.env = (true, eval (.Call (.Name "range" p2) [a, b] [] pos2) X.env) :: starEach es X.env := by rfl) :
    SA X W (.Starred (.Call (.Name "range" p2) [a, b] [] pos2) p :: es) (mSRng (mLRng2 ma mb) mt) := PA.imp (pa_starRg hc (prg_2 hg2 hm2 ha hb na2 nb hp) hr hs) fun s H Q ⟨r, h, sl, R, S, o1⟩ => by
  refine ⟨r, h, sl, R, S, (Out.split (Out.split o1)).mono fun x r1 h1 H1 g1 R1 o2 u q1 => ⟨r1, h1, sl, R1, S.go g1, o2.split.mono fun y r2 h2 H2 g2 R2 o3 u2 q2 => ?_⟩⟩
  obtain ⟨v, e, k⟩ := o3.lft
  split at e
  · split at e
    · rename_i hj
      cases e
      cases q1
      cases q2
      have hq := Bool.and_eq_true_iff.mp hj
      have hq2 := Bool.and_eq_true_iff.mp hq.2
      have h1 := rngOk_ok hq.1
      have h2 := rngOk_ok hq2.1
      have h3 := of_decide_eq_true hq2.2
      refine ⟨_, _, rfl, rfl, ⟨h1.1, h1.2, h2.1, h2.2, by omega⟩, r2, _, sl, R2, (S.go g1).go g2, (Out.split (k r2 H2 (Go.refl _ _) R2)).mono fun ys r3 h3 H3 g3 R3 o4 ws q3 => ?_⟩
      exact o4.now R3 _ ((rgV_rv _ _).append q3)
    · cases e
  · cases e
@[simp] theorem mSRng_app {r : MN} {t : MA} (sl : Sl) (h : AH) : mSRng r t sl h = bdK (r sl h) fun z h1 => bdK (t sl h1) fun ys h2 => match z with
  | .n xs => .ok (xs ++ ys) h2
  | .v _ => .bad := by
  unfold mSRng
  rw [bnd_app]
  congr 1
  funext z h1
  rw [bnd_app]
  cases z <;> rfl
end
end Mr

set_option Elab.async false
set_option linter.all false
set_option maxRecDepth 100000
set_option maxHeartbeats 1000000
namespace Mr
open PySem PySem.Spec PyProof.Rows L2
/-! ### a value handed on by value: what it holds is not changed any more -/
def mFz (m : ME) : ME := fun sl => bnd (m sl) fzV
section
variable {X : Cx} {W : WX} {K : KK} {e : Expr} {s : L2.St} {H : Hp} {Q : VK} {m : ME}
theorem mFz_run (z : tE K W (mFz m) s H Q) : tE K W m s H Q := by
  obtain ⟨r, h, sl, R, S, o⟩ := z
  refine ⟨r, h, sl, R, S, (Out.split o).mono fun v r1 h1 H1 g1 R1 o1 u q1 => ?_⟩
  obtain ⟨w, r2, h2, g2, R2, q2, o2⟩ := fzV_ok R1 q1 o1
  have q3 : RVs K r2 H1 [w] [u] := RVs.vo (r := r2.lo) ⟨fun _ _ e => (by cases e), Keep.refl _, fun _ z => z, fun _ _ _ e => e⟩ (.cons q2 .nil)
  cases q3 with
  | cons a _ => exact o2 u a
theorem se_fz (h : SE X W e m) : SE X W e (mFz m) := PE.imp h fun _ _ _ z => mFz_run z
end
theorem mFz_app (m : ME) (sl : Sl) (h : AH) : mFz m sl h = bdK (m sl h) fzV := by
  unfold mFz
  rw [bnd_app]
/-- lists of lists, by value -/
theorem frz_lst {h : AH} {n : Nat} {xs : List Val} (k : Nat) (e : h[n]? = some (.lst xs)) (hp : plains xs = true) : frz (k + 1) (.ref n) h = some (.fl xs, h.set n (.fz (.fl xs))) := by
  unfold frz
  dsimp only
  rw [e]
  dsimp only
  unfold frzs
  rw [if_pos hp]
  rfl
theorem frzW_refs (k : Nat) : ∀ (ns : List Nat) (vs : List (List Val)) (h : AH), ns.Nodup → ns.length = vs.length → (∀ i (hi : i < ns.length), h[ns[i]]? = some (.lst (vs.getD i []))) → (∀ v ∈ vs, plains v = true) → ∃ h', frzW (frz (k + 1)) (ns.map Val.ref) h = some (vs.map Val.fl, h') ∧ ∀ j, j ∉ ns → h'[j]? = h[j]?
  | [], [], h, _, _, _, _ => ⟨h, rfl, fun j _ => rfl⟩
  | n :: ns, v :: vs, h, nd, hl, hg, hp => by
    have e0 : h[n]? = some (.lst v) := hg 0 (by simp)
    have nd1 := (List.nodup_cons.mp nd).1
    have nd2 := (List.nodup_cons.mp nd).2
    obtain ⟨h', a1, a2⟩ := frzW_refs k ns vs (h.set n (.fz (.fl v))) nd2 (by simpa using hl) (fun i hi => by
      have := hg (i + 1) (by simpa using hi)
      have ne : n ≠ ns[i] := fun z => nd1 (by rw [z]; exact List.getElem_mem hi)
      rw [List.getElem?_set_ne ne]
      simpa using this) fun u hu => hp u (List.mem_cons_of_mem _ hu)
    refine ⟨h', ?_, fun j hj => ?_⟩
    · rw [List.map_cons, List.map_cons]
      unfold frzW
      rw [frz_lst k e0 (hp v List.mem_cons_self)]
      dsimp only
      rw [a1]
    · rw [a2 j fun z => hj (List.mem_cons_of_mem _ z), List.getElem?_set_ne fun z => hj (by rw [z]; exact List.mem_cons_self)]
theorem plains_refs : ∀ {ns : List Nat}, ns ≠ [] → plains (ns.map Val.ref) = false
  | [], h => absurd rfl h
  | n :: ns, _ => by simp [plain]
theorem fzV_refs {h : AH} {p : Nat} {ns : List Nat} {vs : List (List Val)} (ne : ns ≠ []) (e : h[p]? = some (.lst (ns.map Val.ref))) (nd : ns.Nodup) (hl : ns.length = vs.length) (hg : ∀ i (hi : i < ns.length), h[ns[i]]? = some (.lst (vs.getD i []))) (hp : ∀ v ∈ vs, plains v = true) : ∃ h', fzV (.ref p) h = .ok (.fl (vs.map Val.fl)) h' := by
  obtain ⟨h', a, _⟩ := frzW_refs 6 ns vs h nd hl hg hp
  refine ⟨h'.set p (.fz (.fl (vs.map Val.fl))), ?_⟩
  unfold fzV frz
  dsimp only
  rw [e]
  dsimp only
  unfold frzs
  rw [if_neg (by rw [plains_refs ne]; decide), a]
  rfl
end Mr

set_option Elab.async false
set_option linter.all false
set_option maxRecDepth 100000
set_option maxHeartbeats 1000000
namespace Mr
open PySem PySem.Spec PyProof.Rows L2
/-! ### a comprehension over a list of the own heap, read as it stands -/
def lcI (n : Nat) (p : Pat) (t : MT) (el : ME) (sl : Sl) : Nat → Nat → List Val → M (List Val)
  | 0, _, _ => fail
  | k + 1, i, acc => fun h => match h[n]? with
    | some (.lst xs) => (match xs[i]? with
      | none => .ok acc h
      | some v => (match p.bd v sl with
        | none => fail
        | some sl1 => bnd (nX (t sl1)) fun b => if b = true then bnd (nX (el sl1)) fun y => (if sizeOk (acc.length + 1) then lcI n p t el sl k (i + 1) (acc ++ [y]) else fail) else lcI n p t el sl k (i + 1) acc) h)
    | _ => .bad
def mLcT (m : ME) (p : Pat) (t : MT) (el : ME) (own : List Nat) : MN := fun sl => bnd (m sl) fun v h => match v with
  | .ref n => (match h[n]? with
    | some (.lst xs) => bnd (lcI n p t el (wipeM sl own) (xs.length + 1) 0 []) (fun ys => ret (.n ys)) h
    | _ => .bad)
  | _ => .bad
section
variable {X : Cx} {W : WX} {K : KK} {pos : Pos}
theorem mLcT_run {m : ME} {p : Pat} {t : MT} {el : ME} {own : List Nat} (hn : ∀ i ∈ p.names, i ∈ own) {s : L2.St} {H : Hp} {Q : VK} (z : tN K W (mLcT m p t el own) s H Q) : tLc (fun σ H Q => tE K W m σ H fun x H1 => ∃ l, x = V.ref l ∧ (∃ xs, SqL K.K H1 l xs) ∧ Q (Itl K.K l) H1) (p.tg K) (tT K W0 t) (tE K W0 el) own s H Q := by
  obtain ⟨r, h, sl, R, S, o⟩ := z
  refine ⟨r, h, sl, R, S, (Out.split o).mono fun v0 r1 h1 H1 g1 R1 o1 u0 q0 => ?_⟩
  cases q0 with
  | @ref _ _ n a ea =>
    dsimp only at o1
    cases e1 : h1[n]? with
    | none => rw [e1] at o1; exact o1.elim
    | some ob1 =>
      rw [e1] at o1
      cases ob1 with
      | lst xs =>
        dsimp only at o1
        obtain ⟨us0, ha, hq⟩ := R1.ob n a (.lst xs) ea e1
        refine ⟨a, rfl, ⟨us0, SqL.of ha⟩, fun D nD => ?_⟩
        have nz : ¬ r1.fz D := fun z => by obtain ⟨u, e⟩ := R1.fd D z; rw [nD] at e; cases e
        have nm : D ∉ r1.m := fun z => by obtain ⟨u, e⟩ := R1.md D z; rw [nD] at e; cases e
        refine ⟨fun i k H' => ∃ r h acc us, Rel K r h H' ∧ Go r1 H1 r H' ∧ H' D = some (.lst us) ∧ D ∉ r.m ∧ ¬ r.fz D ∧ RVs K r H' acc us ∧
          Out K r1 H1 (bnd (lcI n p t el (wipeM sl own) k i acc) (fun ys => ret (NV.n ys)) h) (fun z r' h' H' => NK K H Q z r' H') (fun cls d H' => W cls d s H'),
          ⟨_, r1, h1, [], [], R1.newu nD, go_new nD, upd_same, nm, nz, .nil, o1⟩, ?_⟩
        rintro i k H2 ⟨r2, h2, acc, us, R2, g2, hD, n1, n2, qa, o2⟩
        cases k with
        | zero => exact o2.elim
        | succ k =>
          have ea2 : r2.m[n]? = some a := g2.pre _ _ ea
          cases e2 : h2[n]? with
          | none =>
            unfold lcI bnd at o2
            dsimp only at o2
            rw [e2] at o2
            exact o2.elim
          | some ob2 =>
            cases ob2 with
            | lst xs2 =>
              obtain ⟨us2, ha2, hq2⟩ := R2.ob n a (.lst xs2) ea2 e2
              cases e3 : xs2[i]? with
              | none =>
                have e0 : lcI n p t el (wipeM sl own) (k + 1) i acc h2 = .ok acc h2 := by
                  unfold lcI
                  rw [e2]
                  dsimp only
                  rw [e3]
                have o3 : Out K r1 H1 (.ok (NV.n acc) h2) (fun z r' h' H' => NK K H Q z r' H') (fun cls d H' => W cls d s H') := by
                  unfold bnd at o2
                  rw [e0] at o2
                  exact o2
                exact .inl ⟨⟨us2, SqL.of ha2, by rw [hq2.length]; exact List.getElem?_eq_none_iff.mp e3⟩, o3 r2 H2 g2 R2 D us (g1.none R1 nD) hD n1 n2 qa⟩
              | some v =>
                obtain ⟨u, f1, f2⟩ := hq2.get e3
                refine .inr ⟨⟨us2, u, SqL.of ha2, f1⟩, fun H' => ∃ r h acc us, Rel K r h H' ∧ Go r1 H1 r H' ∧ H' D = some (.lst us) ∧ D ∉ r.m ∧ ¬ r.fz D ∧ RVs K r H' acc us ∧
                  Out K r1 H1 (bnd (lcI n p t el (wipeM sl own) k (i + 1) acc) (fun ys => ret (NV.n ys)) h) (fun z r' h' H' => NK K H Q z r' H') (fun cls d H' => W cls d s H'), fun H' z => ⟨_, Nat.lt_succ_self _, z⟩, fun x H' y => ?_⟩
                obtain ⟨rfl, y⟩ := y
                have ey := y us2 (SqL.of ha2)
                rw [f1] at ey
                cases ey
                cases q3 : p.bd v (wipeM sl own) with
                | none =>
                  have e0 : lcI n p t el (wipeM sl own) (k + 1) i acc h2 = .bad := by
                    unfold lcI
                    rw [e2]
                    dsimp only
                    rw [e3]
                    dsimp only
                    rw [q3]
                    rfl
                  unfold bnd at o2
                  rw [e0] at o2
                  exact o2.elim
                | some sl1 =>
                  obtain ⟨s', S', w', kk⟩ := Pat.run p f2 ((S.go (g1.trans g2)).wipe own) q3
                  have stay : ∀ {r r' : Rg} {H H' : Hp}, Go r H r' H' → H D = some (.lst us) → D ∉ r.m → ¬ r.fz D → H' D = some (.lst us) ∧ D ∉ r'.m ∧ ¬ r'.fz D := fun {r r' H H'} g e a b =>
                    ⟨g.fr D _ e a, fun z => (g.nw D z).elim a (fun y => by rw [e] at y; cases y), fun z => (g.fn D z).elim b (fun y => y.elim a (fun y => by rw [e] at y; cases y))⟩
                  refine kk _ ⟨by rw [w' own hn]; exact wipe_idem s own, r2, h2, sl1, R2, S', ?_⟩
                  have o3 : Out K r1 H1 (bnd (nX (t sl1)) (fun b => bnd (if b = true then bnd (nX (el sl1)) fun y => (if sizeOk (acc.length + 1) then lcI n p t el (wipeM sl own) k (i + 1) (acc ++ [y]) else fail) else lcI n p t el (wipeM sl own) k (i + 1) acc) (fun ys => ret (NV.n ys))) h2) (fun z r' h' H' => NK K H Q z r' H') (fun cls d H' => W cls d s H') := by
                    have e0 : bnd (lcI n p t el (wipeM sl own) (k + 1) i acc) (fun ys => ret (NV.n ys)) h2 = bnd (nX (t sl1)) (fun b => bnd (if b = true then bnd (nX (el sl1)) fun y => (if sizeOk (acc.length + 1) then lcI n p t el (wipeM sl own) k (i + 1) (acc ++ [y]) else fail) else lcI n p t el (wipeM sl own) k (i + 1) acc) (fun ys => ret (NV.n ys))) h2 := by
                      have e9 : lcI n p t el (wipeM sl own) (k + 1) i acc h2 = (bnd (nX (t sl1)) fun b => if b = true then bnd (nX (el sl1)) fun y => (if sizeOk (acc.length + 1) then lcI n p t el (wipeM sl own) k (i + 1) (acc ++ [y]) else fail) else lcI n p t el (wipeM sl own) k (i + 1) acc) h2 := by
                        conv => lhs; unfold lcI
                        rw [e2]
                        dsimp only
                        rw [e3]
                        dsimp only
                        rw [q3]
                      unfold bnd at e9 ⊢
                      rw [e9]
                      cases nX (t sl1) h2 <;> rfl
                    rw [← e0]
                    exact o2
                  refine (Out.keep o3 g2).nX.mono fun b r4 h4 H4 g4 R4 o4 => ?_
                  obtain ⟨hD4, n14, n24⟩ := stay g4 hD n1 n2
                  have qa4 := qa.go g4
                  cases b with
                  | false => exact iteF ⟨r4, h4, acc, us, R4, g2.trans g4, hD4, n14, n24, qa4, o4⟩
                  | true =>
                    refine iteT ⟨r4, h4, sl1, R4, S'.go g4, ?_⟩
                    rw [if_pos rfl] at o4
                    have o5 : Out K r1 H1 (bnd (nX (el sl1)) (fun y => bnd (if sizeOk (acc.length + 1) then lcI n p t el (wipeM sl own) k (i + 1) (acc ++ [y]) else fail) (fun ys => ret (NV.n ys))) h4) (fun z r' h' H' => NK K H Q z r' H') (fun cls d H' => W cls d s H') := by
                      have e0 : bnd (bnd (nX (el sl1)) fun y => if sizeOk (acc.length + 1) then lcI n p t el (wipeM sl own) k (i + 1) (acc ++ [y]) else fail) (fun ys => ret (NV.n ys)) h4 = bnd (nX (el sl1)) (fun y => bnd (if sizeOk (acc.length + 1) then lcI n p t el (wipeM sl own) k (i + 1) (acc ++ [y]) else fail) (fun ys => ret (NV.n ys))) h4 := by
                        unfold bnd
                        cases nX (el sl1) h4 <;> rfl
                      rw [← e0]
                      exact o4
                    refine (Out.keep o5 (g2.trans g4)).nX.mono fun w r5 h5 H5 g5 R5 o6 u5 q5 => ?_
                    obtain ⟨hD5, n15, n25⟩ := stay g5 hD4 n14 n24
                    split at o6
                    · rename_i hs
                      have vl : Vo r5 H5 r5 (upd H5 D (.lst (us ++ [u5]))) := vo_loose hD5 n25
                      refine ⟨us, hD5, ?_, r5, h5, acc ++ [w], us ++ [u5], R5.loose hD5 n15 n25, (g2.trans (g4.trans g5)).loose nD nz, upd_same, n15, n25, (RVs.vo vl (qa4.go g5)).append (.cons (RV.vo vl q5) .nil), o6⟩
                      have := sizeOk_le hs
                      rw [qa4.length]
                      omega
                    · exact o6.elim
            | _ =>
              unfold lcI bnd at o2
              dsimp only at o2
              rw [e2] at o2
              exact o2.elim
      | _ => exact o1.elim
  | _ => exact o1.elim
theorem sn_lcT {elt tg iter : Expr} {ifs : List Expr} {scope : Scope} {own : List (Str × Nat)} {m : ME} {p : Pat} {t : MT} {el : ME} (hc : X.calm = true) (hN : X.N.Nodup) (hi : SE X W iter m) (ok : BlkOk X.N X.env.scope scope own)
    (hg : ∀ (s : Shared) (H : Hp) (C : Addr) (cl : List (Str × Addr)) (fp : List Addr), SG (X.blk s H scope (compEnvC scope cl C X.env) fp) tg p) (ht : ∀ (s : Shared) (H : Hp) (C : Addr) (cl : List (Str × Addr)) (fp : List Addr), STs (X.blk s H scope (compEnvC scope cl C X.env) fp) W0 ifs t)
    (he : ∀ (s : Shared) (H : Hp) (C : Addr) (cl : List (Str × Addr)) (fp : List Addr), SE (X.blk s H scope (compEnvC scope cl C X.env) fp) W0 elt el) (hn : ∀ i ∈ p.names, i ∈ own.map (·.2) := by decide) (hs : ∀ x, foldedSetIterable iter X.env x = pure x := by intro _; rfl) :
    SN X W (.ListComp elt [⟨tg, iter, ifs, 0⟩] scope pos) (mLcT m p t el (own.map (·.2))) :=
  PE.imp (pe_lc hc hN (pi_list hi) ok hg ht he hs) fun _ _ _ z => mLcT_run hn z
theorem ss_setLcT {i : Nat} {y : Str} {py : Pos} {elt tg iter : Expr} {ifs : List Expr} {scope : Scope} {own : List (Str × Nat)} {spos : Pos} {m : ME} {p : Pat} {t : MT} {el : ME} {f : MN → ME} (hf : ∀ {m : MN} {s : L2.St} {H : Hp} {Q : VK}, tE X.kk W (f m) s H Q → tN X.kk W m s H Q) (hc : X.calm = true) (hN : X.N.Nodup)
    (hsw : swapsWith (.ListComp elt [⟨tg, iter, ifs, 0⟩] scope pos) (some (.Name y py)) spos.line X.env = pure true) (hi : SE X W iter m) (ok : BlkOk X.N X.env.scope scope own)
    (hg : ∀ (s : Shared) (H : Hp) (C : Addr) (cl : List (Str × Addr)) (fp : List Addr), SG (X.blk s H scope (compEnvC scope cl C X.env) fp) tg p) (ht : ∀ (s : Shared) (H : Hp) (C : Addr) (cl : List (Str × Addr)) (fp : List Addr), STs (X.blk s H scope (compEnvC scope cl C X.env) fp) W0 ifs t)
    (he : ∀ (s : Shared) (H : Hp) (C : Addr) (cl : List (Str × Addr)) (fp : List Addr), SE (X.blk s H scope (compEnvC scope cl C X.env) fp) W0 elt el) (hy : X.N[i]? = some y := by rfl) (hyl : X.env.scope.names.lookup y = some .local := by rfl) (hn : ∀ i ∈ p.names, i ∈ own.map (·.2) := by decide) (hs : ∀ x, foldedSetIterable iter X.env x = pure x := by intro _; rfl) :
    SS X W (.Assign [.Name y py] (.ListComp elt [⟨tg, iter, ifs, 0⟩] scope pos) spos) (mSet i (f (mLcT m p t el (own.map (·.2))))) :=
  PS.imp (ps_setLc hc hN hy hyl hsw (pi_list hi) ok hg ht he hs) fun D s H z => mLcT_run hn (hf (by
    obtain ⟨r, h, sl, R, S, o⟩ := z
    exact ⟨r, h, sl, R, S, (OutS.sB o S).mono fun x r1 h1 H1 g1 R1 o1 u q1 => OutS.now o1 R1 _ ((S.go g1).set q1)⟩))
end
/-! ### run -/
theorem lcI_on {α : Type} {p : Pat} {t : MT} {el : ME} {sl : Sl} {h : AH} {n : Nat} (e : α → Val) (tb : α → Bool) (g : α → Val) {l : List α} (hx : h[n]? = some (.lst (l.map e))) (hl : l.length ≤ 16777216)
    (hv : ∀ a ∈ l, ∃ s1, p.bd (e a) sl = some s1 ∧ t s1 h = .ok (tb a) h ∧ (tb a = true → el s1 h = .ok (g a) h)) : ∀ (k i : Nat) (acc : List Val), l.length < k + i → i ≤ l.length → acc.length ≤ i → lcI n p t el sl k i acc h = .ok (acc ++ ((l.drop i).filter tb).map g) h
  | 0, i, acc, h1, h2, _ => by omega
  | k + 1, i, acc, h1, h2, h3 => by
    unfold lcI
    rw [hx]
    dsimp only
    rw [List.getElem?_map]
    by_cases c : i < l.length
    · obtain ⟨s1, b1, b2, b3⟩ := hv l[i] (List.getElem_mem c)
      rw [List.getElem?_eq_getElem c, List.drop_eq_getElem_cons c, List.filter_cons]
      dsimp only [Option.map]
      rw [b1]
      dsimp only
      unfold bnd nX
      rw [b2]
      cases q : tb l[i] with
      | false =>
        dsimp only
        rw [if_neg (by simp), if_neg (by simp)]
        exact lcI_on e tb g hx hl hv k (i + 1) acc (by omega) (by omega) (by omega)
      | true =>
        dsimp only
        rw [if_pos rfl, if_pos rfl, b3 q]
        dsimp only
        have s1 : sizeOk (acc.length + 1) = true := decide_eq_true (by omega)
        rw [if_pos s1, List.map_cons]
        rw [lcI_on e tb g hx hl hv k (i + 1) (acc ++ [g l[i]]) (by omega) (by omega) (by rw [List.length_append, List.length_singleton]; omega)]
        rw [List.append_assoc]
        rfl
    · rw [List.getElem?_eq_none (by omega), List.drop_eq_nil_of_le (by omega)]
      simp
theorem mLcT_on {α : Type} {m : ME} {p : Pat} {t : MT} {el : ME} {own : List Nat} {sl : Sl} {h : AH} {n : Nat} (l : List α) (e : α → Val) (tb : α → Bool) (g : α → Val) (hm : m sl h = .ok (.ref n) h) (hx : h[n]? = some (.lst (l.map e))) (hl : l.length ≤ 16777216)
    (hv : ∀ a ∈ l, ∃ s1, p.bd (e a) (wipeM sl own) = some s1 ∧ t s1 h = .ok (tb a) h ∧ (tb a = true → el s1 h = .ok (g a) h)) : mLcT m p t el own sl h = .ok (.n ((l.filter tb).map g)) h := by
  unfold mLcT bnd
  rw [hm]
  dsimp only
  rw [hx]
  dsimp only
  rw [lcI_on e tb g hx hl hv _ _ _ (by rw [List.length_map]; omega) (Nat.zero_le _) (Nat.le_refl _)]
  rfl
end Mr

set_option Elab.async false
set_option linter.all false
set_option maxRecDepth 100000
set_option maxHeartbeats 3200000
namespace Mr
open PySem PySem.Spec PyProof.Rows L2
/-! ### sets of ints and texts that can be walked -/
def hasK (L : List Key) (k : Key) : Bool := L.any fun x => decide (x = k)
theorem hasK_iff {L : List Key} {k : Key} : hasK L k = true ↔ k ∈ L := by
  unfold hasK
  rw [List.any_eq_true]
  exact ⟨fun ⟨x, hx, e⟩ => of_decide_eq_true e ▸ hx, fun h => ⟨k, h, decide_eq_true rfl⟩⟩
def kyE (e : Int × Value) : Key := match e.2 with
  | .int k _ => .inl k
  | .str x _ => .inr x
  | _ => .inl 0
theorem kyE_of {k : Key} {e : Int × Value} (h : keyIs k e.2 = true) : kyE e = k := by
  unfold kyE
  rcases keyIs_shape h with ⟨i, t, e1, e2⟩ | ⟨x, t, e1, e2⟩
  · rw [e2, e1]
  · rw [e2, e1]
def GoodM (wd : World) (e : Int × Value) : Prop := keyIs (kyE e) e.2 = true ∧ e.1 = keyH wd (kyE e)
theorem ky_scan {k : Key} {v : Value} (h : keyIs k v = true) : v.scannable = true := by
  rcases keyIs_shape h with ⟨i, t, _, e2⟩ | ⟨x, t, _, e2⟩
  · rw [e2]; rfl
  · rw [e2]; rfl
/-- the set at a: its members, in some order -/
def SetM (wd : World) (hp : Heap) (a : Addr) (L : List Key) : Prop :=
  ∃ o es ep t, hp.get? a = some o ∧ o.ExactSet ∧ o.data = .set es ep t ∧ (∀ e ∈ es.toList, GoodM wd e) ∧ (es.toList.map kyE).Perm L ∧ L.Nodup ∧ es.size < scanBound ∧ t.fits es.size = true ∧ Ris t.place.toList ∧ (wd.params.followText "set-order" = true ∨ t.led = true)
section
variable {P : Program} {wd : World} {hp hp' : Heap} {a : Addr} {L : List Key}
theorem SetM.at (R : SetM wd hp a L) (k : ∀ o, hp.get? a = some o → hp'.get? a = some o) : SetM wd hp' a L := by
  obtain ⟨o, es, ep, t, ho, rest⟩ := R
  exact ⟨o, es, ep, t, k o ho, rest⟩
theorem gm_elems {l : List (Int × Value)} (g : ∀ e ∈ l, GoodM wd e) : ElemsOf (mixKind P wd) l := fun e he => by
  obtain ⟨h1, h2⟩ := g e he
  exact ⟨⟨kyE e, h1, h2⟩, ky_scan h1⟩
theorem gm_is {e : Int × Value} (g : GoodM wd e) (k : Key) : (mixKind P wd).is k e.2 = true ↔ kyE e = k := by
  constructor
  · intro z
    exact kyE_of z
  · intro z
    rw [← z]
    exact g.1
theorem gm_mem {l : List (Int × Value)} (g : ∀ e ∈ l, GoodM wd e) (k : Key) : k ∈ l.map kyE ↔ ∃ e ∈ l, (mixKind P wd).is k e.2 = true := by
  rw [List.mem_map]
  constructor
  · rintro ⟨e, he, z⟩
    exact ⟨e, he, (gm_is (g e he) k).2 z⟩
  · rintro ⟨e, he, z⟩
    exact ⟨e, he, (gm_is (g e he) k).1 z⟩
end
section
variable {P : Program} {wd : World} {A : Around} {E : Value → Shared → Prop} {s0 : Shared} {a : Addr} {L : List Key}
theorem setM_tail {gw : Bool → Sem Unit} (hgw : ∀ (b : Bool) (s9 : Shared) (Q9 : Unit → Shared → Prop), Q9 () s9 → wpAny (model P wd) A (gw b) Q9 E s9)
    {o : Obj} {es : Array (Int × Value)} {ep : Nat} {t : SetTable} (ho : s0.heap.get? a = some o) (hex : o.ExactSet) (hd : o.data = .set es ep t)
    {es1 : Array (Int × Value)} {t2 : SetTable} {L1 : List Key} (g1 : ∀ e ∈ es1.toList, GoodM wd e) (p1 : (es1.toList.map kyE).Perm L1) (n1 : L1.Nodup)
    (hb1 : es1.size < scanBound) (hf2 : t2.fits es1.size = true) (hr : Ris t2.place.toList) (hl : wd.params.followText "set-order" = true ∨ t2.led = true) {wasD : Bool} {R : Option Bool → Shared → Prop}
    (hR : ∀ h9, Heap.SameBut a s0.heap h9 → SetM wd h9 a L1 → R (some true) { s0 with heap := h9 }) :
    wpAny (model P wd) A (do
        storeSet a es1 t2
        if (!wasD && t2.tooFull) = true then do
            gw (relayAll t2 es1 (SetTable.grown es1.size)).2.2
            storeSet a (relayAll t2 es1 (SetTable.grown es1.size)).1 (relayAll t2 es1 (SetTable.grown es1.size)).2.1
            pure (some true)
          else pure (some true)) R E s0 := by
  refine wpAny_bind (wpAny_storeSet_of ho hd ?_ (fits_of_scanBound hb1))
  have st1 := store_at (es' := es1) (t' := t2) ho hd
  have sb := Heap.SameBut.update s0.heap a (Obj.putSet es1 t2)
  split
  · have pm := relayAll_perm t2 es1 (SetTable.grown es1.size)
    have hf3 := relayAll_fits t2 es1 (SetTable.grown es1.size)
    have hr3 := relayAll_ris t2 es1 (SetTable.grown es1.size)
    have hl3 := relayAll_led t2 es1 (SetTable.grown es1.size)
    generalize relayAll t2 es1 (SetTable.grown es1.size) = Y at pm hf3 hr3 hl3 ⊢
    obtain ⟨es2, t3, gave⟩ := Y
    dsimp only at pm hf3 hr3 hl3 ⊢
    have hsz : es2.size = es1.size := by rw [← Array.length_toList, pm.length_eq, Array.length_toList]
    have hb2 : es2.size < scanBound := by rw [hsz]; exact hb1
    refine wpAny_bind (hgw _ _ _ ?_)
    refine wpAny_bind (wpAny_storeSet_of st1 rfl ?_ (fits_of_scanBound hb2))
    have st2 := store_at (es' := es2) (t' := t3) st1 rfl
    refine wpAny_pure (hR _ (sb.trans (Heap.SameBut.update _ a _)) ?_)
    refine ⟨_, es2, _, t3, st2, hex, rfl, fun e he => g1 e (pm.mem_iff.mp he), (pm.map kyE).trans p1, n1, hb2, ?_, hr3, hl.imp id fun z => by rw [hl3]; exact z⟩
    first
      | exact hf3
      | (rw [hsz]; exact hf3)
  · exact wpAny_pure (hR _ sb ⟨_, es1, _, t2, st1, hex, rfl, g1, p1, n1, hb1, hf2, hr, hl⟩)
theorem setM_add {k : Key} {v : Value} (hk : keyIs k v = true) {Q : Bool → Shared → Prop} (R : SetM wd s0.heap a L) (room : L.length + 1 < scanBound)
    (hQ : ∀ b h9, Heap.SameBut a s0.heap h9 → SetM wd h9 a (if hasK L k = true then L else L ++ [k]) → Q b { s0 with heap := h9 }) :
    wpAny (model P wd) A (setAddHashed a v ((mixKind P wd).hash k)) Q E s0 := by
  obtain ⟨o, es, ep, t, ho, hex, hd, g, pL, nd, hb, hf, hr, hl⟩ := R
  have hkey : (mixKind P wd).is k v = true := hk
  have hsc : v.scannable = true := ky_scan hk
  have hel : ElemsOf (mixKind P wd) es.toList := gm_elems g
  have hn : es.size = L.length := by rw [← Array.length_toList, ← pL.length_eq, List.length_map]
  unfold setAddHashed setAddHashedIn
  refine wpAny_holding (wpAny_bind (wpAny_setState_of ho hd hf ?_))
  dsimp only
  rw [byScan_of hsc hb hel]
  simp only [↓reduceIte]
  unfold setAddByScan
  refine wpAny_bind ?_
  refine wpAny_bind (wpAny_rule ?_)
  refine wpAny_bind (wpAny_setScan_of hkey ho hd hf hel ?_)
  cases hfi : List.findIdx? (fun e => (mixKind P wd).is k e.2) es.toList with
  | some j =>
    dsimp only
    obtain ⟨hj, pj, _⟩ := List.findIdx?_eq_some_iff_getElem.mp hfi
    have hm : k ∈ L := pL.mem_iff.mp ((gm_mem (P := P) g k).2 ⟨es.toList[j], List.getElem_mem hj, pj⟩)
    refine wpAny_pure (wpAny_pure ?_)
    have q := hQ false s0.heap (Heap.SameBut.refl a s0.heap)
    rw [if_pos (hasK_iff.mpr hm)] at q
    exact q ⟨o, es, ep, t, ho, hex, hd, g, pL, nd, hb, hf, hr, hl⟩
  | none =>
    dsimp only
    have hnk : k ∉ es.toList.map kyE := fun z => by
      obtain ⟨e, he, q⟩ := (gm_mem (P := P) g k).1 z
      have c := List.findIdx?_eq_none_iff.mp hfi e he
      rw [q] at c
      cases c
    have hm : ¬ k ∈ L := fun z => hnk (pL.mem_iff.mpr z)
    have hgw : ∀ (b : Bool) {s9 : Shared} {Q9 : Unit → Shared → Prop}, Q9 () s9 → wpAny (model P wd) A (match b with | true => rule "set.scan.the-table-gave-way" | false => pure ()) Q9 E s9 :=
      fun b s9 Q9 q => by cases b <;> first | exact wpAny_pure q | exact wpAny_rule q
    have pm := layNew_perm t es ((mixKind P wd).hash k) v
    have hf1 := layNew_fits t es ((mixKind P wd).hash k) v
    have hr1 := layNew_ris t es ((mixKind P wd).hash k) v hr
    have hl1 := layNew_led t es ((mixKind P wd).hash k) v
    generalize layNew t es ((mixKind P wd).hash k) v = Y at pm hf1 hr1 hl1 ⊢
    obtain ⟨es1, t1, wasD, gave⟩ := Y
    dsimp only at pm hf1 hr1 hl1 ⊢
    rw [Array.toList_push] at pm
    have pc : es1.toList.Perm (((mixKind P wd).hash k, v) :: es.toList) := pm.trans (List.perm_append_singleton _ _)
    have ke : kyE ((mixKind P wd).hash k, v) = k := kyE_of hk
    have pk : (es1.toList.map kyE).Perm (L ++ [k]) := by
      have := pc.map kyE
      rw [List.map_cons, ke] at this
      exact this.trans ((List.Perm.cons k pL).trans (List.perm_append_singleton _ _).symm)
    have g1 : ∀ e ∈ es1.toList, GoodM wd e := fun e he => by
      rcases List.mem_cons.mp (pc.mem_iff.mp he) with z | z
      · rw [z]
        exact ⟨by rw [ke]; exact hk, by rw [ke]; rfl⟩
      · exact g e z
    have nd1 : (L ++ [k]).Nodup := by
      rw [List.nodup_append]
      refine ⟨nd, List.pairwise_singleton _ _, fun x hx y hy => ?_⟩
      rw [List.mem_singleton.mp hy]
      exact fun z => hm (by rw [← z]; exact hx)
    have hsz : es1.size = es.size + 1 := by rw [← Array.length_toList, pc.length_eq, List.length_cons, Array.length_toList]
    have hb1 : es1.size < scanBound := by rw [hsz, hn]; exact room
    have hled : wd.params.followText "set-order" = true ∨ t1.led = true := hl.imp id fun z => by rw [hl1]; exact z
    have fin : ∀ h9, Heap.SameBut a s0.heap h9 → SetM wd h9 a (L ++ [k]) → Q true { s0 with heap := h9 } := fun h9 sb r => by
      have q := hQ true h9 sb
      rw [if_neg (fun z => hm (hasK_iff.mp z))] at q
      exact q r
    refine wpAny_bind (hgw _ ?_)
    split
    · refine wpAny_bind ?_
      rw [hashByValue_scannable 8 hsc]
      refine wpAny_pure ?_
      refine setM_tail ?_ ho hex hd g1 pk nd1 hb1 ?_ ?_ ?_ ?_
      · intro b s9 Q9 q; cases b <;> first | exact wpAny_pure q | exact wpAny_rule q
      · first | (split <;> first | exact hf1 | exact SetTable.fits_plain_off hf1) | exact hf1
      · first | (split <;> exact hr1) | exact hr1
      · first | (split <;> exact hled) | exact hled
      · intro h9 sb r; dsimp only; exact wpAny_pure (fin h9 sb r)
    · refine wpAny_bind (wpAny_pure ?_)
      simp only [↓reduceIte]
      refine setM_tail ?_ ho hex hd g1 pk nd1 hb1 hf1 hr1 hled ?_
      · intro b s9 Q9 q; cases b <;> first | exact wpAny_pure q | exact wpAny_rule q
      · intro h9 sb r; dsimp only; exact wpAny_pure (fin h9 sb r)
/-- what is met, each once, in the order of meeting -/
def meet (ks : List Key) : List Key := ks.foldl (fun L k => if hasK L k = true then L else L ++ [k]) []
theorem meet_snoc (ks : List Key) (k : Key) : meet (ks ++ [k]) = if hasK (meet ks) k = true then meet ks else meet ks ++ [k] := by
  unfold meet
  rw [List.foldl_append]
  rfl
theorem meet_len (ks : List Key) : (meet ks).length ≤ ks.length := by
  rcases List.eq_nil_or_concat ks with e | ⟨q, k, e⟩
  · subst e; exact Nat.le_refl _
  · rw [List.concat_eq_append] at e
    have : q.length < ks.length := by rw [e, List.length_append, List.length_singleton]; omega
    have ih := meet_len q
    rw [e, meet_snoc, List.length_append, List.length_singleton]
    split
    · omega
    · rw [List.length_append, List.length_singleton]; omega
termination_by ks.length
theorem setM_update {I : Addr} {fp wr : List Addr} {G : Array GenState → Array GenState → Prop} {n : Nat} {Pv : Nat → Value → Prop} {St : Nat → Shared → Prop} {R : Result → Shared → Prop}
    (W : WalksS P wd A.in1 I fp wr G n Pv St) (S : Addr) (hSf : S ∉ fp) (ks : List Key) (hn : n = ks.length) (hb : ks.length + 1 < scanBound) (hval : ∀ i v, Pv i v → ∃ k, ks[i]? = some k ∧ keyIs k v = true) :
    ∀ (m i : Nat) (s1 : Shared), n - i = m → i ≤ n → St i s1 → SetM wd s1.heap S (meet (ks.take i)) →
      (∀ s', Moved (S :: wr) G s1 s' → SetM wd s'.heap S (meet ks) → R (.ok (.ret .none)) s') →
      codeAny (model P wd) A (.builtin "set.update.loop" ⟨[.ref S, .ref I], []⟩) R s1 := by
  have hSw : S ∉ wr := fun z => hSf (W.sub _ z)
  have hsub : ∀ b ∈ wr, b ∈ S :: wr := fun b z => List.mem_cons_of_mem _ z
  intro m
  induction m with
  | zero =>
    intro i s1 hm' hi hst hS hR
    have hin : i = n := by omega
    subst hin
    refine codeAny_builtin F.entry_set_update_loop ?_
    rw [Around.under_plainId F.plain_set_update_loop _]
    show wpAny _ A.in1 (pyNext (.ref I) >>= _) _ _ s1
    refine wpAny_bind (W.done s1 _ _ hst fun s' hm => ?_)
    show wpAny _ A.in1 (PySem.ret Value.none) _ _ s'
    have e : ks.take i = ks := List.take_of_length_le (by omega)
    rw [e] at hS
    exact wpAny_pure (hR s' (hm.mono hsub) (hS.at fun o e => hm.heap S o hSw e))
  | succ m ih =>
    intro i s1 hm' hi hst hS hR
    have hlt : i < n := by omega
    refine codeAny_builtin F.entry_set_update_loop ?_
    rw [Around.under_plainId F.plain_set_update_loop _]
    show wpAny _ A.in1 (pyNext (.ref I) >>= _) _ _ s1
    refine wpAny_bind (W.item i s1 _ _ hlt hst fun v s' hP hst' hm => ?_)
    obtain ⟨k, hz, hk⟩ := hval i v hP
    have hS' : SetM wd s'.heap S (meet (ks.take i)) := hS.at fun o e => hm.heap S o hSw e
    show wpAny _ A.in1 (holding [v] (setAdd S v) >>= _) _ _ s'
    refine wpAny_bind (wpAny_holding ?_)
    unfold setAdd
    refine wpAny_holding ?_
    refine wpAny_bind ((mixKind P wd).pyHash (k := k) hk ?_)
    have ml := meet_len (ks.take i)
    rw [List.length_take] at ml
    refine setM_add (s0 := { s' with toks := s'.toks + 1 }) hk hS' (by omega) fun b0 h9 hsb hS2 => ?_
    have e3 : meet (ks.take (i + 1)) = if hasK (meet (ks.take i)) k = true then meet (ks.take i) else meet (ks.take i) ++ [k] := by
      rw [List.take_add_one, hz]
      exact meet_snoc _ _
    rw [← e3] at hS2
    refine wpAny_pure ⟨plainId_quiet F.plain_set_update_loop _, ih (i + 1) _ (by omega) hlt (W.frame _ s' _ _ hst' (Nat.le_succ _) fun b hb o e => ?_) hS2 fun s'' hm'' hS'' => ?_⟩
    · rw [hsb.2 b (fun z : b = S => hSf (by rw [← z]; exact hb))]; exact e
    · refine hR s'' (Moved.trans W.gtrans ((hm.mono hsub).then_heap (Nat.le_succ _) fun b o hb e => ?_) hm'') hS''
      rw [hsb.2 b (fun z : b = S => hb (by rw [z]; exact List.mem_cons_self))]; exact e
theorem setM_fresh {hp : Heap} {c : Addr} (ho : hp.get? c = some { cls := .type "set", dict := none, data := .set #[] 0 (.fresh 0 0 (!wd.params.followText "set-order")) }) : SetM wd hp c [] :=
  ⟨_, #[], 0, _, ho, ⟨rfl, rfl, rfl⟩, rfl, (fun e he => by simp at he), List.Perm.nil, List.nodup_nil, (by decide), (by rfl), List.Pairwise.nil, by
    show _ ∨ (!wd.params.followText "set-order") = true
    cases wd.params.followText "set-order"
    · exact .inr rfl
    · exact .inl rfl⟩
end
end Mr

set_option Elab.async false
set_option linter.all false
set_option maxRecDepth 100000
set_option maxHeartbeats 3200000
namespace Mr
open PySem PySem.Spec PyProof.Rows L2
/-! ### set(xs) -/
section
variable {P : Program} {wd : World} {A : Around} {E : Value → Shared → Prop} {s0 : Shared}
abbrev newSetO (wd : World) : Obj := { cls := .type "set", dict := none, data := .set #[] 0 (.fresh 0 0 (!wd.params.followText "set-order")) }
theorem call_set_listM {lc : Addr} {its : Array Value} (ks : List Key) {Q : Value → Shared → Prop} (calm : A.handled = none) (isl : s0.heap.IsList lc its) (esz : its.size = ks.length) (hval : ∀ (i : Nat) (v : Value), its[i]? = some v → ∃ k, ks[i]? = some k ∧ keyIs k v = true)
    (fits : ks.length + 1 < scanBound)
    (fin : ∀ (h9 : Heap) (t9 : Nat), SetM wd h9 s0.heap.objs.size (meet ks) → (∀ b o, s0.heap.get? b = some o → h9.get? b = some o) → Q (.ref s0.heap.objs.size) { s0 with heap := h9, toks := t9 }) :
    wpAny (model P wd) A (call (.type "set") [.ref lc]) Q E s0 := by
  obtain ⟨cm, tm, isMro⟩ := F.called_set.mro
  have isMade := F.called_set.made
  have isSub := F.called_set.sub
  refine wpAny_call (codeAny_of_tree ?_)
  show wpAny _ _ (callAny (.type "set") _) _ _ _
  refine wpAny_pure ⟨Code.quiet_builtin _ (by decide +kernel), codeAny_builtin F.entry_type_call ?_⟩
  rw [Around.under_plain (weight_type_call_type "set" [.ref lc] []) rfl]
  have f1 := F.called_set.notType
  have f2 := F.called_set.canCreate
  have f3 := F.typeCall_set_1 (.ref lc)
  repeat (any_goals (first | assumption | wp_step))
  refine codeAny_mono (code_set_led1 (.ref lc) (E := E) (Q₁ := fun ov s1 => ov = .ref s0.heap.objs.size ∧ s1 = { s0 with heap := s0.heap.push (newSetO wd) }) ⟨rfl, rfl⟩) fun r1 s1 hr1 => ?_
  cases r1 with
  | error e => exact hr1
  | ok fl =>
    cases fl with
    | ret ov =>
      obtain ⟨rfl, rfl⟩ := hr1
      have atS : (s0.heap.push (newSetO wd)).get? s0.heap.objs.size = some (newSetO wd) := Heap.get?_push_size _ rfl
      have tyS : Shared.TypeIs { s0 with heap := s0.heap.push (newSetO wd) } (.ref s0.heap.objs.size) "set" := ⟨_, atS, rfl⟩
      have f4 := F.called_set.init.lookup
      have f5 := F.called_set.init.bind (.ref s0.heap.objs.size)
      repeat (any_goals (first | assumption | wp_step))
      refine codeAny_mono (codeAny_call_builtin (R := wants (fun r2 s2 => r2 = .none ∧ ∃ h9 t9, s2 = { s0 with heap := h9, toks := t9 } ∧ SetM wd h9 s0.heap.objs.size (meet ks) ∧
          (∀ b o, s0.heap.get? b = some o → h9.get? b = some o)) E) F.called_set.init.plain F.entry_set_init (check_set_init_1 tyS ?_)) fun r2 s2 hr2 => ?_
      · obtain ⟨ol, hol, hcl, nl, hdl⟩ := isl
        obtain ⟨ocls, odict, odata, oslots⟩ := ol
        simp only at hcl hdl
        subst hcl; subst hdl
        have hol1 : (s0.heap.push (newSetO wd)).get? lc = some { cls := .type "list", dict := odict, data := .seq its nl, slots := oslots } := Heap.get?_push_of_some _ hol
        have f6 := F.sub_list_set
        have f7 := F.sub_list_frozenset
        have f8 : (Value.type "list" == Value.type "dict") = false := by decide
        have l1 : (s0.heap.push (newSetO wd)).IsList lc its := ⟨_, hol1, rfl, nl, rfl⟩
        unfold Builtin.«set.__init__» noKeywords Builtin.Frozenset.updateFrom
        generalize hPI : pyIter = PI
        wp_walk
        subst hPI
        refine wpAny_pyIter_list l1 ?_
        refine wpAny_bind (wpAny_runValue ?_)
        have ltl : lc < s0.heap.objs.size := Heap.lt_size hol
        have calm3 : A.in1.in1.in1.handled = none := by simp [calm]
        have sz1 : (s0.heap.push (newSetO wd)).objs.size = s0.heap.objs.size + 1 := Heap.size_push ..
        have neI : lc ≠ (s0.heap.push (newSetO wd)).objs.size := by
          rw [Heap.size_push]; exact Nat.ne_of_lt (Nat.lt_succ_of_lt ltl)
        have nfp : s0.heap.objs.size ∉ [(s0.heap.push (newSetO wd)).objs.size, lc] := by
          rw [Heap.size_push]; simp only [List.mem_cons, List.mem_singleton, List.not_mem_nil, or_false, not_or]
          exact ⟨Nat.ne_of_lt (Nat.lt_succ_self _), Nat.ne_of_gt ltl⟩
        refine setM_update ((Walks.list calm3 _ lc neI its).toS) s0.heap.objs.size
          nfp ks esz fits hval (its.size - 0) 0 _ (by omega) (Nat.zero_le _)
          ⟨⟨_, Heap.get?_push_size _ rfl, rfl, rfl⟩, (l1.push _)⟩ ?c0 ?c1
        case c0 =>
          exact setM_fresh (Heap.get?_push_of_some _ atS)
        case c1 =>
          intro s9 mv sm
          obtain ⟨h9, g9, d9, t9, o9⟩ := s9
          have eg : g9 = s0.gens := mv.gens
          have ed : d9 = s0.drawn := mv.drawn
          have eo : o9 = s0.os := mv.os
          subst eg; subst ed; subst eo
          show wpAny _ _ _ _ _ _
          refine wpAny_pure ?_
          show wpAny _ _ (PySem.ret Value.none) _ _ _
          refine wpAny_pure ⟨rfl, h9, t9, rfl, sm, fun b o e => ?_⟩
          have lt0 : b < s0.heap.objs.size := Heap.lt_size e
          have ne1 : b ≠ s0.heap.objs.size := Nat.ne_of_lt lt0
          have ne2 : b ≠ (s0.heap.push (newSetO wd)).objs.size := by
            rw [Heap.size_push]; exact Nat.ne_of_lt (Nat.lt_succ_of_lt lt0)
          exact mv.heap b o (by simp only [List.mem_cons, List.mem_singleton, List.not_mem_nil, or_false, not_or]; exact ⟨ne1, ne2⟩) (Heap.get?_push_of_some _ (Heap.get?_push_of_some _ e))
      · cases r2 with
        | error e => exact hr2
        | ok f9 =>
          cases f9 with
          | ret r =>
            obtain ⟨rfl, h9, t9, rfl, sm, kept⟩ := hr2
            repeat (any_goals (first | assumption | wp_step))
            exact fin _ _ sm kept
          | _ => exact hr2.elim
    | _ => exact hr1.elim
end
end Mr

set_option Elab.async false
set_option linter.all false
set_option maxRecDepth 100000
set_option maxHeartbeats 3200000
namespace Mr
open PySem PySem.Spec PyProof.Rows L2 PySem.W
/-! ### sorting ints, texts -/
def encK : Key → PyData
  | .inl i => .int i
  | .inr x => .str x
def valK : Key → V
  | .inl i => .int i
  | .inr x => .str x
def unK : Key → Val
  | .inl i => .int i
  | .inr x => .str x
def isKI : Key → Bool
  | .inl _ => true
  | .inr _ => false
def likeK (ks : List Key) : Bool := ks.all isKI || ks.all fun k => !isKI k
def sortK (ks : List Key) : List Key := ks.mergeSort (dataLe false encK)
theorem likeK_cases {ks : List Key} (h : likeK ks = true) : (∃ ns : List Int, ks = ns.map Sum.inl) ∨ ∃ xs : List Str, ks = xs.map Sum.inr := by
  rcases Bool.or_eq_true_iff.mp h with z | z
  · left
    clear h
    induction ks with
    | nil => exact ⟨[], rfl⟩
    | cons k ks ih =>
      obtain ⟨a, b⟩ := Bool.and_eq_true_iff.mp z
      obtain ⟨ns, e⟩ := ih b
      cases k with
      | inl i => exact ⟨i :: ns, by rw [e]; rfl⟩
      | inr x => cases a
  · right
    clear h
    induction ks with
    | nil => exact ⟨[], rfl⟩
    | cons k ks ih =>
      obtain ⟨a, b⟩ := Bool.and_eq_true_iff.mp z
      obtain ⟨xs, e⟩ := ih b
      cases k with
      | inl i => cases a
      | inr x => exact ⟨x :: xs, by rw [e]; rfl⟩
theorem likeK_sub {ks ls : List Key} (h : likeK ks = true) (s : ∀ k ∈ ls, k ∈ ks) : likeK ls = true := by
  unfold likeK at h ⊢
  rcases Bool.or_eq_true_iff.mp h with z | z
  · rw [Bool.or_eq_true]; exact .inl (List.all_eq_true.mpr fun k hk => List.all_eq_true.mp z k (s k hk))
  · rw [Bool.or_eq_true]; exact .inr (List.all_eq_true.mpr fun k hk => List.all_eq_true.mp z k (s k hk))
theorem like_all {ks : List Key} (h : likeK ks = true) : AllAlike (ks.map encK) := by
  intro d hd d2 hd2
  rcases likeK_cases h with ⟨ns, rfl⟩ | ⟨xs, rfl⟩
  · rw [List.map_map] at hd hd2
    obtain ⟨i, _, rfl⟩ := List.mem_map.mp hd
    obtain ⟨j, _, rfl⟩ := List.mem_map.mp hd2
    rfl
  · rw [List.map_map] at hd hd2
    obtain ⟨i, _, rfl⟩ := List.mem_map.mp hd
    obtain ⟨j, _, rfl⟩ := List.mem_map.mp hd2
    rfl
theorem like_sortable (ks : List Key) : Sortable (ks.map encK) := Sortable.others fun b => by
  cases b
  · exact ⟨(fun z => by cases z), fun xs z => by cases z⟩
  · exact ⟨(fun z => by cases z), fun xs z => by cases z⟩
theorem sorted_one {α : Type} {le : α → α → Bool} (anti : ∀ a b, le a b = true → le b a = true → a = b) : ∀ {l m : List α}, l.Perm m → l.Pairwise (fun a b => le a b = true) → m.Pairwise (fun a b => le a b = true) → l = m
  | [], m, p, _, _ => (List.Perm.nil_eq p)
  | a :: l, m, p, hl, hm => by
    cases m with
    | nil => exact absurd p.length_eq (by simp)
    | cons b m =>
      obtain ⟨l1, l2⟩ := List.pairwise_cons.mp hl
      obtain ⟨m1, m2⟩ := List.pairwise_cons.mp hm
      have ab : a = b := by
        rcases List.mem_cons.mp (p.mem_iff.mp (List.mem_cons_self (a := a))) with z | z
        · exact z
        · rcases List.mem_cons.mp (p.mem_iff.mpr (List.mem_cons_self (a := b) (l := m))) with y | y
          · exact y.symm
          · exact anti a b (l1 b y) (m1 a z)
      subst ab
      rw [sorted_one anti (List.Perm.cons_inv p) l2 m2]
def leI (a b : Int) : Bool := decide (a ≤ b)
def leS (a b : Str) : Bool := decide (a.cps.toList ≤ b.cps.toList)
theorem totI : TotalLe leI := ⟨fun a b c h1 h2 => decide_eq_true (Int.le_trans (of_decide_eq_true h1) (of_decide_eq_true h2)), fun a b => by
  rcases Int.le_total a b with z | z
  · exact .inl (decide_eq_true z)
  · exact .inr (decide_eq_true z)⟩
theorem antI (a b : Int) (h1 : leI a b = true) (h2 : leI b a = true) : a = b := Int.le_antisymm (of_decide_eq_true h1) (of_decide_eq_true h2)
theorem totS : TotalLe leS := ⟨fun a b c h1 h2 => decide_eq_true (List.le_trans (of_decide_eq_true h1) (of_decide_eq_true h2)), fun a b => by
  rcases List.le_total a.cps.toList b.cps.toList with z | z
  · exact .inl (decide_eq_true z)
  · exact .inr (decide_eq_true z)⟩
theorem antS (a b : Str) (h1 : leS a b = true) (h2 : leS b a = true) : a = b := by
  have e : a.cps.toList = b.cps.toList := List.le_antisymm (of_decide_eq_true h1) (of_decide_eq_true h2)
  cases a
  cases b
  exact congrArg _ (Array.toList_inj.mp e)
theorem sortK_ints (ns : List Int) : sortK (ns.map Sum.inl) = (ns.mergeSort leI).map Sum.inl := by
  unfold sortK
  refine (sort_maps (f := (Sum.inl : Int → Key)) (r := leI) (s := dataLe false encK) fun a _ b _ => ?_).symm
  exact (congrFun (congrFun (dataLe_int (fun i : Int => i)) a) b).symm
theorem sortK_strs (xs : List Str) : sortK (xs.map Sum.inr) = (xs.mergeSort leS).map Sum.inr := by
  unfold sortK
  refine (sort_maps (f := (Sum.inr : Str → Key)) (r := leS) (s := dataLe false encK) fun a _ b _ => ?_).symm
  exact (congrFun (congrFun (dataLe_str (fun x : Str => x)) a) b).symm
theorem sortK_perm {ks ls : List Key} (h : likeK ks = true) (p : ks.Perm ls) : sortK ks = sortK ls := by
  have hl : likeK ls = true := likeK_sub h fun k hk => p.mem_iff.mpr hk
  rcases likeK_cases h with ⟨ns, rfl⟩ | ⟨xs, rfl⟩
  · rcases likeK_cases hl with ⟨ms, rfl⟩ | ⟨ys, rfl⟩
    · rw [sortK_ints, sortK_ints]
      have q : ns.Perm ms := by
        have := p.filterMap (fun k : Key => match k with | .inl i => some i | .inr _ => none)
        rw [List.filterMap_map, List.filterMap_map] at this
        have e : ∀ l : List Int, List.filterMap ((fun k : Key => match k with | .inl i => some i | .inr _ => none) ∘ Sum.inl) l = l := fun l => by
          show List.filterMap (fun i => some i) l = l
          exact List.filterMap_some
        rw [e, e] at this
        exact this
      rw [sorted_one antI ((List.mergeSort_perm ns leI).trans (q.trans (List.mergeSort_perm ms leI).symm)) (sort_pairwise totI ns) (sort_pairwise totI ms)]
    · cases ns with
      | nil => rw [← List.Perm.nil_eq p]; rfl
      | cons n ns =>
        exact absurd (p.mem_iff.mp List.mem_cons_self) (fun z => by
          obtain ⟨y, _, e⟩ := List.mem_map.mp z
          cases e)
  · rcases likeK_cases hl with ⟨ms, rfl⟩ | ⟨ys, rfl⟩
    · cases xs with
      | nil => rw [← List.Perm.nil_eq p]; rfl
      | cons n xs =>
        exact absurd (p.mem_iff.mp List.mem_cons_self) (fun z => by
          obtain ⟨y, _, e⟩ := List.mem_map.mp z
          cases e)
    · rw [sortK_strs, sortK_strs]
      have q : xs.Perm ys := by
        have := p.filterMap (fun k : Key => match k with | .inr i => some i | .inl _ => none)
        rw [List.filterMap_map, List.filterMap_map] at this
        have e : ∀ l : List Str, List.filterMap ((fun k : Key => match k with | .inr i => some i | .inl _ => none) ∘ Sum.inr) l = l := fun l => by
          show List.filterMap (fun i => some i) l = l
          exact List.filterMap_some
        rw [e, e] at this
        exact this
      rw [sorted_one antS ((List.mergeSort_perm xs leS).trans (q.trans (List.mergeSort_perm ys leS).symm)) (sort_pairwise totS xs) (sort_pairwise totS ys)]
theorem sortK_len (ks : List Key) : (sortK ks).length = ks.length := List.length_mergeSort ks
/-! ### sorted(xs), sorted(set(xs)): the calls -/
theorem each_of_vals : ∀ {ks : List Key} {us : List Value}, Vals (ks.map valK) us → EachIs (fun v k => keyIs k v = true) us ks
  | [], _, r => by cases r; exact .nil
  | k :: ks, _, r => by
    cases r with
    | cons a t =>
      refine .cons ?_ (each_of_vals t)
      cases k with
      | inl i => obtain ⟨t, rfl⟩ := a; exact decide_eq_true rfl
      | inr x => obtain ⟨t, rfl⟩ := a; exact decide_eq_true rfl
theorem vals_of_each : ∀ {us : List Value} {ks : List Key}, EachIs (fun v k => keyIs k v = true) us ks → Vals (ks.map valK) us
  | _, _, .nil => .nil
  | _, _, .cons (b := k) a t => by
    refine .cons ?_ (vals_of_each t)
    rcases keyIs_shape a with ⟨i, t, rfl, rfl⟩ | ⟨x, t, rfl, rfl⟩
    · exact ⟨t, rfl⟩
    · exact ⟨t, rfl⟩
theorem each_reads {h : Heap} {us : List Value} {ks : List Key} (e : EachIs (fun v k => keyIs k v = true) us ks) : EachIs (fun v k => ∃ as, Reads h v (encK k) as) us ks := e.mono fun v k z => by
  rcases keyIs_shape z with ⟨i, t, rfl, rfl⟩ | ⟨x, t, rfl, rfl⟩
  · exact ⟨_, .int _ _⟩
  · exact ⟨_, .str _ _⟩
theorem depthK (k : Key) : (encK k).depth = 0 := by cases k <;> rfl
end Mr

set_option Elab.async false
set_option linter.all false
set_option maxRecDepth 100000
set_option maxHeartbeats 3200000
namespace Mr
open PySem PySem.Spec PyProof.Rows L2 PySem.W
section
variable {X : Cx}
def rSortK (K : PySem.W.Frag) : List V → Hp → VK → Prop := fun us H Q => ∃ (a : Addr) (ks : List Key), us = [V.ref a] ∧ SqL K H a (ks.map valK) ∧ likeK ks = true ∧ ∀ p, H p = none → Q (.ref p) (upd H p (.lst ((sortK ks).map valK)))
theorem cr_sortK (room : X.A.units + 64 < cLine) : CallR X (.builtin "sorted") (rSortK X.K) := by
  intro pins s σ H vs us Q I r h
  obtain ⟨a, ks, rfl, hs, like, q⟩ := h
  obtain ⟨its, rv, pl, hz⟩ := I.list hs
  rw [Vals.ref1 r]
  have ev := each_of_vals rv
  rw [List.length_map] at hz
  refine sorted_data (enc := encK) pl.isList ev (each_reads ev) (like_all like) (like_sortable ks) hz (fun b _ => by rw [depthK]; omega) fun out lo eo => ?_
  obtain ⟨ep, at9⟩ := sortedAll_at s.heap its out.toArray
  exact ⟨.ref _, upd H (s.heap.objs.size + 1) (.lst ((sortK ks).map valK)), I.laid (t' := s.toks) (fun _ _ => sortedAll_old) (Nat.le_succ _) ⟨by rw [List.length_map, sortK_len]; exact hz, out, ep, vals_of_each eo, at9⟩, rfl, q _ (I.hok.fresh (Nat.le_succ _))⟩
end
section
variable {P : Program} {wd : World} {A : Around} {E : Value → Shared → Prop} {s0 : Shared} {a : Addr} {L : List Key}
theorem each_of_map {α β : Type} {R : α → β → Prop} (f : α → β) : ∀ {l : List α}, (∀ v ∈ l, R v (f v)) → EachIs R l (l.map f)
  | [], _ => .nil
  | v :: l, h => .cons (h v List.mem_cons_self) (each_of_map f fun u z => h u (List.mem_cons_of_mem _ z))
theorem sorted_setM {Q : Value → Shared → Prop} (R : SetM wd s0.heap a L) (calm : A.handled = none) (like : likeK L = true) (room : A.units + 64 < cLine)
    (fin : ∀ s9 p (out : List Value) (c : Nat), (∀ b o, s0.heap.get? b = some o → s9.heap.get? b = some o) → s9.gens = s0.gens → s9.os = s0.os → s0.heap.objs.size ≤ p →
      s9.heap.get? p = some (seqObj "list" out.toArray c) → EachIs (fun v k => keyIs k v = true) out (sortK L) → Q (.ref p) s9) :
    wpAny (model P wd) A (call (.builtin "sorted") [.ref a]) Q E s0 := by
  obtain ⟨o, es, ep, t, ho, hex, hd, g, pL, nd, hb, hf, hr, hl⟩ := R
  refine Calls.call_function_entry kind_sorted plain_sorted entry_sorted (args_sorted1 _) ?_
  unfold Builtin.«sorted»
  refine wpAny_bind (m := checkCount "sorted" 1 1 _) (wpAny_pure ?_)
  refine wpAny_bind (collect_set (A := A.in1) calm ⟨o, ho, hex.1, hd⟩ hf hb hr hl fun s1 vs k1 z1 g1 o1 pm => ?_)
  have nv : vs.length = L.length := by rw [pm.length_eq, ← pL.length_eq, List.length_map, List.length_map]
  have ev : EachIs (fun v k => keyIs k v = true) vs (vs.map fun v => kyE (0, v)) := each_of_map _ fun v hv => by
    obtain ⟨e, he, q⟩ := List.mem_map.mp (pm.mem_iff.mp hv)
    have := (g e he).1
    rw [← q]
    exact this
  have pk : (vs.map fun v => kyE (0, v)).Perm L := by
    have := pm.map fun v => kyE (0, v)
    rw [List.map_map] at this
    exact this.trans pL
  have nb : L.length < scanBound := by
    rw [← pL.length_eq, List.length_map, Array.length_toList]; exact hb
  have like2 : likeK (vs.map fun v => kyE (0, v)) = true := likeK_sub like fun k hk => pk.mem_iff.mp hk
  have bs : vs.length ≤ sizeLine := by rw [nv, sizeLine_eq]; unfold scanBound at nb; omega
  refine wpAny_bind (wpAny_newList ?_ bs)
  have at1 : (s1.heap.push (seqObj "list" vs.toArray 0)).get? s1.heap.objs.size = some (seqObj "list" vs.toArray 0) := Heap.get?_push_size _ rfl
  refine wpAny_bind (wpAny_holding (list_sort_data (enc := encK) at1 ev (ev.mono fun v k z => by
    rcases keyIs_shape z with ⟨i, t, rfl, rfl⟩ | ⟨x, t, rfl, rfl⟩
    · exact ⟨_, .int _ _, by simp⟩
    · exact ⟨_, .str _ _, by simp⟩) (like_all like2) (like_sortable _) (by rw [List.length_map]; exact bs) (fun b _ => by rw [depthK]; show A.units + 1 + 1 + 0 < cLine; omega) fun out lo eo => ?_))
  obtain ⟨c, hc⟩ := sortedHeap_at (vs := vs) (out := out.toArray) at1
  refine wpAny_pure ⟨_, rfl, fin _ s1.heap.objs.size out c (fun b u e => ?_) g1 o1 z1 hc (by
    have := sortK_perm like2 pk
    unfold sortK at this ⊢
    rw [← this]
    exact eo)⟩
  have q := k1 b u e
  have lt1 := Heap.lt_size q
  show (sortedHeap (s1.heap.push (seqObj "list" vs.toArray 0)) s1.heap.objs.size vs out.toArray).get? b = some u
  rw [sortedHeap_old (Nat.ne_of_lt lt1) (by rw [size_push']; exact Nat.lt_succ_of_lt lt1)]
  exact Heap.get?_push_of_some _ q
end
end Mr

set_option Elab.async false
set_option linter.all false
set_option maxRecDepth 100000
set_option maxHeartbeats 3200000
namespace Mr
open PySem PySem.Spec PyProof.Rows L2 PySem.W
/-! ### sorted(xs), sorted(set(xs)), mirrored -/
theorem meet_mem (ks : List Key) : ∀ k, k ∈ meet ks → k ∈ ks := by
  intro k hk
  rcases List.eq_nil_or_concat ks with e | ⟨q, j, e⟩
  · subst e; exact hk
  · rw [List.concat_eq_append] at e
    have : q.length < ks.length := by rw [e, List.length_append, List.length_singleton]; omega
    have ih := meet_mem q k
    rw [e, meet_snoc] at hk
    rw [e]
    split at hk
    · exact List.mem_append_left _ (ih hk)
    · rcases List.mem_append.mp hk with z | z
      · exact List.mem_append_left _ (ih z)
      · exact List.mem_append_right _ z
termination_by ks.length
def kysOf : List Val → Option (List Key)
  | [] => some []
  | .int i :: xs => (kysOf xs).map (Sum.inl i :: ·)
  | .str x :: xs => (kysOf xs).map (Sum.inr x :: ·)
  | _ :: _ => none
def lstKys (h : AH) (v : Val) : Option (List Key) := match lsV h v with
  | some xs => kysOf xs
  | none => none
def cSorted (xs : List Val) (h : AH) : Option NV := match xs with
  | [x] => match lstKys h x with
    | some ks => if likeK ks = true then some (.n ((sortK ks).map unK)) else none
    | none => none
  | _ => none
def cSortSet (xs : List Val) (h : AH) : Option NV := match xs with
  | [x] => match lstKys h x with
    | some ks => if likeK ks && decide (ks.length ≤ 4000) then some (.n ((sortK (meet ks)).map unK)) else none
    | none => none
  | _ => none
section
variable {K : KK} {r : Rg} {H : Hp} {h : AH}
theorem kysOf_ok : ∀ {xs : List Val} {us : List V} {ks : List Key}, RVs K r H xs us → kysOf xs = some ks → us = ks.map valK
  | [], _, _, q, e => by cases q; cases e; rfl
  | .int i :: xs, _, ks, q, e => by
    cases q with
    | cons a b =>
      cases a
      have e0 : (kysOf xs).map (Sum.inl i :: ·) = some ks := e
      cases e1 : kysOf xs with
      | none => rw [e1] at e0; cases e0
      | some ks1 =>
        rw [e1] at e0
        cases e0
        rw [kysOf_ok b e1]
        rfl
  | .str i :: xs, _, ks, q, e => by
    cases q with
    | cons a b =>
      cases a
      have e0 : (kysOf xs).map (Sum.inr i :: ·) = some ks := e
      cases e1 : kysOf xs with
      | none => rw [e1] at e0; cases e0
      | some ks1 =>
        rw [e1] at e0
        cases e0
        rw [kysOf_ok b e1]
        rfl
  | .non :: _, _, _, _, e => nomatch e
  | .bl _ :: _, _, _, _, e => nomatch e
  | .tup _ :: _, _, _, _, e => nomatch e
  | .ref _ :: _, _, _, _, e => nomatch e
  | .fl _ :: _, _, _, _, e => nomatch e
  | .fd _ _ :: _, _, _, _, e => nomatch e
  | .ft _ _ :: _, _, _, _, e => nomatch e
  | .ob _ _ _ :: _, _, _, _, e => nomatch e
  | .ex _ _ _ :: _, _, _, _, e => nomatch e
  | .sl _ :: _, _, _, _, e => nomatch e
theorem Rel.kys (R : Rel K r h H) {v : Val} {u : V} {ks : List Key} (q : RV K r H v u) (e : lstKys h v = some ks) : ∃ a, u = .ref a ∧ SqL K.K H a (ks.map valK) := by
  unfold lstKys at e
  cases e1 : lsV h v with
  | none => rw [e1] at e; cases e
  | some xs =>
    rw [e1] at e
    obtain ⟨a, us, rfl, s, t⟩ := R.lst q e1
    have := kysOf_ok t e
    subst this
    exact ⟨a, rfl, s⟩
theorem each_get {α β : Type} {S : α → β → Prop} : ∀ {us : List α} {ks : List β}, EachIs S us ks → ∀ (i : Nat) {v : α}, us[i]? = some v → ∃ k, ks[i]? = some k ∧ S v k
  | _, _, .nil, i, v, e => by simp at e
  | _, _, .cons z _, 0, v, e => by rw [List.getElem?_cons_zero] at e; cases e; exact ⟨_, rfl, z⟩
  | _, _, .cons _ t, i + 1, v, e => by rw [List.getElem?_cons_succ] at e; obtain ⟨k, a, b⟩ := each_get t i e; exact ⟨k, by rw [List.getElem?_cons_succ]; exact a, b⟩
theorem rvs_keys (ks : List Key) : RVs K r H (ks.map unK) (ks.map valK) := by
  induction ks with
  | nil => exact .nil
  | cons k ks ih =>
    refine .cons ?_ ih
    cases k
    · exact .int _
    · exact .str _
def rSetSort (K : PySem.W.Frag) : List V → Hp → VK → Prop := fun us H Q => ∃ (a : Addr) (ks : List Key), us = [V.ref a] ∧ SqL K H a (ks.map valK) ∧ likeK ks = true ∧ ks.length ≤ 4000 ∧ ∀ p, H p = none → Q (.ref p) (upd H p (.lst ((sortK (meet ks)).map valK)))
theorem cm_sorted : CaN K (rSortK K.K) cSorted := by
  intro r h H xs us z Q R q e k
  unfold cSorted at e
  split at e
  · rename_i x
    obtain ⟨u, rfl, qx⟩ := q.one
    split at e
    · rename_i ks e1
      split at e
      · rename_i like
        cases e
        obtain ⟨a, rfl, s⟩ := R.kys qx e1
        exact ⟨a, ks, rfl, s, like, fun p np => NK.newL R np (rvs_keys _) k⟩
      · cases e
    · cases e
  · cases e
theorem cm_sortSet : CaN K (rSetSort K.K) cSortSet := by
  intro r h H xs us z Q R q e k
  unfold cSortSet at e
  split at e
  · rename_i x
    obtain ⟨u, rfl, qx⟩ := q.one
    split at e
    · rename_i ks e1
      split at e
      · rename_i ok
        obtain ⟨like, small⟩ := Bool.and_eq_true_iff.mp ok
        cases e
        obtain ⟨a, rfl, s⟩ := R.kys qx e1
        exact ⟨a, ks, rfl, s, like, of_decide_eq_true small, fun p np => NK.newL R np (rvs_keys _) k⟩
      · cases e
    · cases e
  · cases e
end
section
variable {X : Cx} {W : WX} {a b c : Expr} {es : List Expr} {ma mb mc : ME} {mt : MA} {p p2 pos pos2 : Pos} {k : Nat} {t : TA}
theorem sn_sorted (hr : Room k X.A) (hm : X.mg "sorted" = none) (ha : SA X W (a :: es) mt) (hg : Gl X "sorted" := by rfl)
    (he : starEach (a :: es) X.env = (false, eval a X.env) :: starEach es X.env := by rfl) (hpl : (backTo pos (starEach es X.env)).any (·.1) = false := by rfl) : SN X W (.Call (.Name "sorted" p) (a :: es) [] pos) (mCallN cSorted mt) :=
  sn_callB (cr_sortK (by have := hr.un; omega)) cm_sorted (by decide +kernel) hm ha hg (by decide) (by decide) he hpl
theorem pe_setSort (calm : X.calm = true) (room : X.A.units + 64 < cLine) (gs : Gl X "sorted") (ms : X.mg "sorted" = none) (g2 : Gl X "set") (m2 : X.mg "set" = none) (ha : PA X (a :: es) t)
    (ns : starEach [.Call (.Name "set" p2) (a :: es) [] pos2] X.env = (false, eval (.Call (.Name "set" p2) (a :: es) [] pos2) X.env) :: starEach [] X.env := by rfl)
    (he : starEach (a :: es) X.env = (false, eval a X.env) :: starEach es X.env := by rfl) (hpl : (backTo pos2 (starEach es X.env)).any (·.1) = false := by rfl) :
    PE X (.Call (.Name "sorted" p) [.Call (.Name "set" p2) (a :: es) [] pos2] [] pos) (tCB (rSetSort X.K) t) := by
  refine ⟨fun pins s σ H Q I h => ?_⟩
  have inner : wpAny (model X.prog X.w) X.A (eval (.Call (.Name "set" p2) (a :: es) [] pos2) X.env) (fun x s9 => ∃ r ks H9, x = .ref r ∧ SetM X.w s9.heap r (meet ks) ∧ Inv X pins σ H9 s9 ∧ likeK ks = true ∧ ks.length ≤ 4000 ∧
      ∀ p, H9 p = none → Q (.ref p) (upd H9 p (.lst ((sortK (meet ks)).map valK)))) X.xe s := by
    refine wpAny_Call_Name_kw (ld_blt I g2 m2 (by decide +kernel : bootBuiltins "set" = some (.type "set")) ?_)
    refine PyProof.Rows.callWith_type1 (thn (ha.run pos2 pins s σ H _ I h) fun us s1 ⟨vs, H1, I1, r1, q1⟩ => ?_) he hpl
    obtain ⟨l, ks, rfl, sq, like, small, q⟩ := q1
    rw [Vals.ref1 r1]
    obtain ⟨its, rv, pl, hz⟩ := I1.list sq
    have len := rv.length
    rw [List.length_map] at len
    refine call_set_listM ks (I1.ok.hd calm) pl.isList (by rw [List.size_toArray]; exact len.symm) (fun i v hv => ?_) (by unfold scanBound; omega) fun h9 t9 sm kept => ?_
    · rw [List.getElem?_toArray] at hv
      exact each_get (each_of_vals rv) i hv
    · exact ⟨_, ks, H1, rfl, sm, I1.kept kept, like, small, q⟩
  refine wpAny_Call_Name_kw (ld_blt I gs ms (by decide +kernel : bootBuiltins "sorted" = some (.builtin "sorted")) ?_)
  refine PyProof.Rows.callWith_builtin1 (args_cons (thn inner fun x s1 ⟨r, ks, H1, ex, sm, I1, like, small, q⟩ => args_nil ?_) ns) ns
  subst ex
  refine sorted_setM sm (I1.ok.hd calm) (likeK_sub like (meet_mem ks)) room fun s9 p out c kept g9 o9 hp at9 eo => ?_
  have J : Inv X pins σ (upd H1 p (.lst ((sortK (meet ks)).map valK))) { s1 with heap := s9.heap, gens := s9.gens, drawn := s9.drawn, toks := s9.toks } :=
    I1.call (ch := []) (Un.laid kept hp (I1.hok.fresh hp)) (I1.hok.laid kept hp ⟨by
      have := meet_len ks
      rw [List.length_map, sortK_len, sizeLine_eq]
      omega, out, c, vals_of_each eo, at9⟩) (by rw [g9]; exact I1.bare) (fun _ z => nomatch z)
  have e : s9 = { s1 with heap := s9.heap, gens := s9.gens, drawn := s9.drawn, toks := s9.toks } := by
    cases s9
    cases s1
    cases o9
    rfl
  rw [e]
  exact ⟨.ref p, _, J, rfl, q p (I1.hok.fresh hp)⟩
theorem sn_sortSet (calm : X.calm = true) (hr : Room k X.A) (ms : X.mg "sorted" = none) (m2 : X.mg "set" = none) (ha : SA X W (a :: es) mt) (gs : Gl X "sorted" := by rfl) (g2 : Gl X "set" := by rfl)
    (ns : starEach [.Call (.Name "set" p2) (a :: es) [] pos2] X.env = (false, eval (.Call (.Name "set" p2) (a :: es) [] pos2) X.env) :: starEach [] X.env := by rfl)
    (he : starEach (a :: es) X.env = (false, eval a X.env) :: starEach es X.env := by rfl) (hpl : (backTo pos2 (starEach es X.env)).any (·.1) = false := by rfl) :
    SN X W (.Call (.Name "sorted" p) [.Call (.Name "set" p2) (a :: es) [] pos2] [] pos) (mCallN cSortSet mt) :=
  PE.imp (pe_setSort calm (by have := hr.un; omega) gs ms g2 m2 ha ns he hpl) fun _ _ _ z => mCallN_run cm_sortSet z
end
end Mr

set_option Elab.async false
set_option linter.all false
set_option maxRecDepth 100000
set_option maxHeartbeats 3200000
namespace Mr
open PySem PySem.Spec PyProof.Rows L2 PySem.W
/-! ### list(range(i, j, c)) -/
def rgVc (lo c : Int) (n : Nat) : List V := (List.range n).map fun k => V.int (lo + (k : Nat) * c)
def cLRng3 (xs : List Val) (_ : AH) : Option NV := match xs with
  | [.int i, .int j, .int c] => if rgcOk i j c (Builtin.Range.rangeSize i j c).toNat && decide ((Builtin.Range.rangeSize i j c).toNat ≤ 16777216) then some (.n (rngC i c (Builtin.Range.rangeSize i j c).toNat)) else none
  | _ => none
def rLRng3 : List V → Hp → VK → Prop := fun us H Q => ∃ (i j c : Int) (n : Nat), us = [.int i, .int j, .int c] ∧ RgC i j c n ∧ n ≤ 16777216 ∧ ∀ p, H p = none → Q (.ref p) (upd H p (.lst (rgVc i c n)))
theorem vals_rgc {lo c : Int} {n : Nat} {acc : Array Value} (h : ItemsOf (fun i v => ∃ t, v = .int (lo + i * c) t) acc n) : Vals (rgVc lo c n) acc.toList := by
  have e : acc.toList.length = n := by rw [Array.length_toList]; exact h.1
  unfold rgVc
  rw [← e]
  refine vals_of_get acc.toList _ fun j u hj => ?_
  obtain ⟨t, rfl⟩ := h.2 j u (by rw [← hj, Array.getElem?_toList])
  exact ⟨t, rfl⟩
section
variable {K : KK}
theorem rvs_rgc {r : Rg} {H : Hp} (lo c : Int) (n : Nat) : RVs K r H (rngC lo c n) (rgVc lo c n) := by
  unfold rngC rgVc
  induction List.range n with
  | nil => exact .nil
  | cons k l ih => exact .cons (.int _) ih
theorem cm_lrng3 : CaN K rLRng3 cLRng3 := by
  intro r h H xs us z Q R q e k
  unfold cLRng3 at e
  split at e
  · obtain ⟨u, w, y, rfl, q2, q3, q4⟩ := q.three
    cases q2; cases q3; cases q4
    split at e
    · rename_i ok
      obtain ⟨o1, o2⟩ := Bool.and_eq_true_iff.mp ok
      cases e
      exact ⟨_, _, _, _, rfl, rgcOk_ok o1, of_decide_eq_true o2, fun p np => NK.newL R np (rvs_rgc _ _ _) k⟩
    · cases e
  · cases e
end
section
variable {X : Cx} {W : WX} {a b c : Expr} {mt : MA} {p p2 pos pos2 : Pos} {t : TA}
theorem pe_lrng3 (calm : X.calm = true) (gl : Gl X "list") (ml : X.mg "list" = none) (g2 : Gl X "range") (m2 : X.mg "range" = none) (ha : PA X [a, b, c] t)
    (ns : starEach [.Call (.Name "range" p2) [a, b, c] [] pos2] X.env = (false, eval (.Call (.Name "range" p2) [a, b, c] [] pos2) X.env) :: starEach [] X.env := by rfl)
    (he : starEach [a, b, c] X.env = (false, eval a X.env) :: starEach [b, c] X.env := by rfl) (hpl : (backTo pos2 (starEach [b, c] X.env)).any (·.1) = false := by rfl) :
    PE X (.Call (.Name "list" p) [.Call (.Name "range" p2) [a, b, c] [] pos2] [] pos) (tCB rLRng3 t) := by
  refine ⟨fun pins s σ H Q I h => ?_⟩
  have inner : wpAny (model X.prog X.w) X.A (eval (.Call (.Name "range" p2) [a, b, c] [] pos2) X.env) (fun x s9 => ∃ r i j k t0 u0 v0 n H9, x = .ref r ∧ IsRange s9.heap r i j k t0 u0 v0 ∧ Inv X pins σ H9 s9 ∧ RgC i j k n ∧ n ≤ 16777216 ∧
      ∀ q, H9 q = none → Q (.ref q) (upd H9 q (.lst (rgVc i k n)))) X.xe s := by
    refine Call_ (ld_blt I g2 m2 boot_range (PyProof.Rows.callWith_type1 (thn (ha.run pos2 pins s σ H _ I h) fun us s1 ⟨vs, H1, I1, r1, q1⟩ => ?_) he hpl))
    obtain ⟨i, j, k, n, e, rc, small, q⟩ := q1
    subst e
    cases r1 with
    | cons ra rr =>
      cases rr with
      | cons rb rr =>
        cases rr with
        | cons rk rr =>
          cases rr
          obtain ⟨ta, rfl⟩ := ra
          obtain ⟨tb, rfl⟩ := rb
          obtain ⟨tk, rfl⟩ := rk
          refine call_range_3 rc.1 ?_ (.inl (PyProof.noPylong_small rc.2.1))
          exact ⟨_, i, j, k, _, _, _, n, H1, rfl, IsRange.new _ _ _ _ _ _ _, I1.kept (t' := s1.toks) fun b o e => Heap.get?_push_of_some _ e, rc, small, q⟩
  refine Call_ (ld_blt I gl ml boot_list (PyProof.Rows.callWith_type1 (args_cons (thn inner fun x s1 ⟨r, i, j, k, t0, u0, v0, n, H1, ex, hr, I1, rc, small, q⟩ => args_nil ?_) ns) ns))
  subst ex
  refine call_list_range (n := n) (I1.ok.hd calm) hr rc.2.2.1 rc.2.2.2 (by omega) fun h9 tk acc c9 kept at9 hi => ?_
  refine ⟨.ref s1.heap.objs.size, upd H1 s1.heap.objs.size (.lst (rgVc i k n)), I1.laid kept (Nat.le_refl _) (show ObjOk X.prog X.w _ _ _ (.lst (rgVc i k n)) from ⟨?_, acc.toList, c9, vals_rgc hi, ?_⟩), rfl, q _ (I1.hok.fresh (Nat.le_refl _))⟩
  · unfold rgVc
    rw [List.length_map, List.length_range, sizeLine_eq]; omega
  · rw [Array.toArray_toList]; exact at9
theorem sn_lrng3 (calm : X.calm = true) (ml : X.mg "list" = none) (m2 : X.mg "range" = none) (ha : SA X W [a, b, c] mt) (gl : Gl X "list" := by rfl) (g2 : Gl X "range" := by rfl)
    (ns : starEach [.Call (.Name "range" p2) [a, b, c] [] pos2] X.env = (false, eval (.Call (.Name "range" p2) [a, b, c] [] pos2) X.env) :: starEach [] X.env := by rfl)
    (he : starEach [a, b, c] X.env = (false, eval a X.env) :: starEach [b, c] X.env := by rfl) (hpl : (backTo pos2 (starEach [b, c] X.env)).any (·.1) = false := by rfl) :
    SN X W (.Call (.Name "list" p) [.Call (.Name "range" p2) [a, b, c] [] pos2] [] pos) (mCallN cLRng3 mt) :=
  PE.imp (pe_lrng3 calm gl ml g2 m2 ha ns he hpl) fun _ _ _ z => mCallN_run cm_lrng3 z
end
end Mr

set_option Elab.async false
set_option linter.all false
set_option maxRecDepth 100000
set_option maxHeartbeats 3200000
namespace Mr
open PySem PySem.Spec PyProof.Rows L2 PySem.W PySem.SeqAt
/-! ### min(xs), xs a list of pairs of ints -/
section
variable {P : Program} {wd : World} {A : Around} {R : Result → Shared → Prop} {I : Addr} {fp wr : List Addr} {G : Array GenState → Array GenState → Prop} {n : Nat} {Pv : Nat → Value → Prop} {St : Nat → Shared → Prop}
/-- what is compared lies in h0, which nobody touches -/
def CmpIn (A : Around) (h0 : Heap) (Pv : Nat → Value → Prop) (bt : Nat → Nat → Bool) : Prop :=
  ∀ i j u v (s9 : Shared), Pv i u → Pv j v → (∀ b o, h0.get? b = some o → s9.heap.get? b = some o) → RcLt A s9 u v (bt i j)
theorem min_in (W : WalksS P wd A.in1 I fp wr G n Pv St) (bt : Nat → Nat → Bool) {h0 : Heap} (cmp : CmpIn A.in1 h0 Pv bt) (S : Addr) (nfp : S ∉ fp) (far : ∀ b o, h0.get? b = some o → b ∉ S :: wr) :
    ∀ (m j : Nat) (s1 : Shared) (best : Value) (c : Nat), n - (j + 1) = m → j + 1 ≤ n → St (j + 1) s1 → Pv (argBest bt j) best → (∀ b o, h0.get? b = some o → s1.heap.get? b = some o) →
    s1.heap.get? S = some { cls := .type "list", dict := none, data := .seq #[best, best] c, slots := #[] } →
    (∀ v s9, Pv (argBest bt (n - 1)) v → Moved (S :: wr) G s1 s9 → R (.ok (.ret v)) s9) → codeAny (model P wd) A (.builtin "min.loop" ⟨[.ref I, .none, .ref S], []⟩) R s1 := by
  have nwr : S ∉ wr := fun z => nfp (W.sub _ z)
  have more : ∀ b ∈ wr, b ∈ S :: wr := fun b z => List.mem_cons_of_mem _ z
  have nm : (toString "min" ++ toString ".loop" : String) = "min.loop" := by decide
  have off : ∀ {b : Addr}, b ∉ S :: wr → S ≠ b := fun nb z => nb (by rw [z]; exact List.mem_cons_self)
  have far2 : ∀ b o, h0.get? b = some o → b ∉ wr := fun b o e z => far b o e (more b z)
  intro m
  induction m with
  | zero =>
    intro j s1 best c em le st pb kept atS fin
    have ej : j + 1 = n := by omega
    refine codeAny_builtin F.entry_min_loop ?_
    rw [Around.under_plainId F.plain_min_loop _]
    show wpAny _ A.in1 (seqItems? (.ref S) >>= _) _ _ s1
    refine wpAny_bind (wpAny_seqItems atS rfl ?_)
    show wpAny _ A.in1 (tryCatch (pyNext (.ref I)) _ >>= _) _ _ s1
    refine wpAny_bind (wpAny_tryCatch (W.done s1 _ _ (ej ▸ st) fun s9 mv => ?_))
    have at9 := mv.heap S _ nwr atS
    show wpAny _ A.in1 (updateSeq S (fun _ => #[]) >>= _) _ _ _
    refine wpAny_bind ?_
    refine wpAny_updateSeq at9 rfl (wpAny_bind (wpAny_letGo (wpAny_pure ?_)))
    exact fin best _ (by rw [← ej]; exact pb) ((mv.mono more).then_heap (tk := s9.toks) (Nat.le_refl _) fun b o nb e => (Heap.get?_update_other _ _ (off nb)).trans e)
  | succ m ih =>
    intro j s1 best c em le st pb kept atS fin
    have lt : j + 1 < n := by omega
    refine codeAny_builtin F.entry_min_loop ?_
    rw [Around.under_plainId F.plain_min_loop _]
    show wpAny _ A.in1 (seqItems? (.ref S) >>= _) _ _ s1
    refine wpAny_bind (wpAny_seqItems atS rfl ?_)
    show wpAny _ A.in1 (tryCatch (pyNext (.ref I)) _ >>= _) _ _ s1
    refine wpAny_bind (wpAny_tryCatch (W.item (j + 1) s1 _ _ lt st fun v s9 pv st9 mv => ?_))
    have at9 := mv.heap S _ nwr atS
    have kept9 : ∀ b o, h0.get? b = some o → s9.heap.get? b = some o := fun b o e => mv.heap b o (far2 b o e) (kept b o e)
    show wpAny _ A.in1 (tryCatch (holding [v, v] (richCompare .Lt v best >>= _)) _ >>= _) _ _ _
    refine wpAny_bind (wpAny_tryCatch (wpAny_holding (wpAny_bind (cmp (j + 1) (argBest bt j) v best s9 pv pb kept9 _ _ _ _ ?_))))
    refine wpAny_bind (wpAny_holding (wpAny_truthy_bool ?_))
    refine wpAny_bind (wpAny_letGo (wpAny_pure ?_))
    cases eb : bt (j + 1) (argBest bt j) with
    | true =>
      simp only [if_true]
      refine wpAny_bind ?_
      refine wpAny_updateSeq at9 rfl (wpAny_bind (wpAny_letGo ?_))
      rw [nm]
      refine wpAny_pure ⟨plainId_quiet F.plain_min_loop _, ih (j + 1) _ v _ (by omega) lt (W.frame _ s9 _ s9.toks st9 (Nat.le_refl _) fun b bf o e => ?_) (by simp only [argBest, eb, if_true]; exact pv) (fun b o e => ?_) (Heap.get?_update_self _ at9 rfl)
        fun v2 s8 pv2 mv2 => ?_⟩
      · exact (Heap.get?_update_other _ _ (fun z : S = b => nfp (by rw [z]; exact bf))).trans e
      · exact (Heap.get?_update_other _ _ (off (far b o e))).trans (kept9 b o e)
      · exact fin v2 s8 pv2 (Moved.trans W.gtrans ((mv.mono more).then_heap (by first | exact Nat.le_refl _ | exact Nat.le_succ _ | omega) fun b o nb e => (Heap.get?_update_other _ _ (off nb)).trans e) mv2)
    | false =>
      simp only [Bool.false_eq_true, if_false]
      refine wpAny_bind (wpAny_letGo ?_)
      rw [nm]
      refine wpAny_pure ⟨plainId_quiet F.plain_min_loop _, ih (j + 1) _ best c (by omega) lt st9 (by simp only [argBest, eb, Bool.false_eq_true, if_false]; exact pb) kept9 at9 fun v2 s8 pv2 mv2 => ?_⟩
      exact fin v2 s8 pv2 (Moved.trans W.gtrans (mv.mono more) mv2)
theorem min_in_first (W : WalksS P wd A.in1 I fp wr G n Pv St) (bt : Nat → Nat → Bool) {h0 : Heap} (cmp : CmpIn A.in1 h0 Pv bt) (S : Addr) (nfp : S ∉ fp) (far : ∀ b o, h0.get? b = some o → b ∉ S :: wr) (pos : 0 < n) {s1 : Shared} {c : Nat} (st : St 0 s1)
    (kept : ∀ b o, h0.get? b = some o → s1.heap.get? b = some o)
    (atS : s1.heap.get? S = some { cls := .type "list", dict := none, data := .seq #[] c, slots := #[] })
    (fin : ∀ v s9, Pv (argBest bt (n - 1)) v → Moved (S :: wr) G s1 s9 → R (.ok (.ret v)) s9) : codeAny (model P wd) A (.builtin "min.loop" ⟨[.ref I, .none, .ref S], []⟩) R s1 := by
  have nwr : S ∉ wr := fun z => nfp (W.sub _ z)
  have more : ∀ b ∈ wr, b ∈ S :: wr := fun b z => List.mem_cons_of_mem _ z
  have nm : (toString "min" ++ toString ".loop" : String) = "min.loop" := by decide
  have off : ∀ {b : Addr}, b ∉ S :: wr → S ≠ b := fun nb z => nb (by rw [z]; exact List.mem_cons_self)
  have far2 : ∀ b o, h0.get? b = some o → b ∉ wr := fun b o e z => far b o e (more b z)
  refine codeAny_builtin F.entry_min_loop ?_
  rw [Around.under_plainId F.plain_min_loop _]
  show wpAny _ A.in1 (seqItems? (.ref S) >>= _) _ _ s1
  refine wpAny_bind (wpAny_seqItems atS rfl ?_)
  show wpAny _ A.in1 (tryCatch (pyNext (.ref I)) _ >>= _) _ _ s1
  refine wpAny_bind (wpAny_tryCatch (W.item 0 s1 _ _ pos st fun v s9 pv st9 mv => ?_))
  have at9 := mv.heap S _ nwr atS
  show wpAny _ A.in1 (updateSeq S (fun _ => #[v, v]) >>= _) _ _ _
  refine wpAny_bind ?_
  refine wpAny_updateSeq at9 rfl ?_
  rw [nm]
  refine wpAny_pure ⟨plainId_quiet F.plain_min_loop _, min_in W bt cmp S nfp far _ 0 _ v _ rfl pos (W.frame _ s9 _ s9.toks st9 (Nat.le_refl _) fun b bf o e => ?_) pv (fun b o e => ?_) (Heap.get?_update_self _ at9 rfl) fun v2 s8 pv2 mv2 => ?_⟩
  · exact (Heap.get?_update_other _ _ (fun z : S = b => nfp (by rw [z]; exact bf))).trans e
  · exact (Heap.get?_update_other _ _ (off (far b o e))).trans (mv.heap b o (far2 b o e) (kept b o e))
  · exact fin v2 s8 pv2 (Moved.trans W.gtrans ((mv.mono more).then_heap (by first | exact Nat.le_refl _ | exact Nat.le_succ _ | omega) fun b o nb e => (Heap.get?_update_other _ _ (off nb)).trans e) mv2)
end
section
variable {P : Program} {wd : World} {A : Around} {E : Value → Shared → Prop} {s0 : Shared}
theorem min_list_in {l : Addr} {its : Array Value} {Q : Value → Shared → Prop} (bt : Nat → Nat → Bool) (calm : A.handled = none) (isl : s0.heap.IsList l its) (pos : 0 < its.size) (cmp : CmpIn A.in1 s0.heap (fun i v => its[i]? = some v) bt)
    (fin : ∀ v h9 t9, its[argBest bt (its.size - 1)]? = some v → (∀ b o, s0.heap.get? b = some o → h9.get? b = some o) → Q v { s0 with heap := h9, toks := t9 }) :
    wpAny (model P wd) A (call (.builtin "min") [.ref l]) Q E s0 := by
  have nm : (toString "min" ++ toString ".loop" : String) = "min.loop" := by decide
  have ltl : l < s0.heap.objs.size := by obtain ⟨_, e, _⟩ := isl; exact Heap.lt_size e
  refine call_function_tree F.kind_min F.plain_min F.entry_min (F.args_min1 _) ?_
  show wpAny _ A.in1 (Builtin.Builtins.bindParams "min" ["key", "default"] 0 ⟨[], []⟩ >>= _) _ _ s0
  refine wpAny_bind (wpAny_of_eq (show Builtin.Builtins.bindParams "min" ["key", "default"] 0 ⟨[], []⟩ = pure [none, none] from rfl) ?_)
  refine wpAny_bind (wpAny_pure ?_)
  refine wpAny_bind (wpAny_pyIter_list isl ?_)
  refine wpAny_bind (wpAny_newObj_type ?_)
  rw [nm]
  have ne : l ≠ s0.heap.objs.size := Nat.ne_of_lt ltl
  have z1 : (s0.heap.push { cls := .type "list_iterator", data := .fields #[.ref l, .int 0 0] }).objs.size = s0.heap.objs.size + 1 := Heap.size_push ..
  have nfp : (s0.heap.push { cls := .type "list_iterator", data := .fields #[.ref l, .int 0 0] }).objs.size ∉ [s0.heap.objs.size, l] := by
    rw [z1]
    simp only [List.mem_cons, List.mem_singleton, List.not_mem_nil, or_false, not_or]
    exact ⟨Nat.ne_of_gt (Nat.lt_succ_self _), Nat.ne_of_gt (Nat.lt_succ_of_lt ltl)⟩
  refine wpAny_pure ⟨plainId_quiet F.plain_min_loop _, min_in_first ((Walks.list (A := A.in1) calm s0.heap.objs.size l ne its).toS) bt cmp _ nfp (fun b o e z => ?_) pos ⟨⟨_, Heap.get?_push_of_some _ (Heap.get?_push_size _ rfl), rfl, rfl⟩, (isl.push _).push _⟩
    (fun b o e => Heap.get?_push_of_some _ (Heap.get?_push_of_some _ e)) (Heap.get?_push_size _ rfl) fun v s9 pv mv => ?_⟩
  · have lt := Heap.lt_size e
    rw [z1] at z
    rcases List.mem_cons.mp z with z | z
    · exact absurd (z ▸ lt : s0.heap.objs.size + 1 < s0.heap.objs.size) (by omega)
    · exact absurd (List.mem_singleton.mp z ▸ lt : s0.heap.objs.size < s0.heap.objs.size) (Nat.lt_irrefl _)
  · obtain ⟨h9, g9, d9, t9, o9⟩ := s9
    have eg : g9 = s0.gens := mv.gens
    have ed : d9 = s0.drawn := mv.drawn
    have eo : o9 = s0.os := mv.os
    subst eg; subst ed; subst eo
    exact fin v h9 t9 pv fun b o e => mv.heap b o (fun z => by
      have lt := Heap.lt_size e
      rw [z1] at z
      rcases List.mem_cons.mp z with z | z
      · exact absurd (z ▸ lt : s0.heap.objs.size + 1 < s0.heap.objs.size) (by omega)
      · exact absurd (List.mem_singleton.mp z ▸ lt : s0.heap.objs.size < s0.heap.objs.size) (Nat.lt_irrefl _)) (Heap.get?_push_of_some _ (Heap.get?_push_of_some _ e))
end
end Mr

set_option Elab.async false
set_option linter.all false
set_option maxRecDepth 100000
set_option maxHeartbeats 3200000
namespace Mr
open PySem PySem.Spec PyProof.Rows L2 PySem.W PySem.SeqAt
/-! ### min of pairs, min and max of three -/
def ltP (p q : Int × Int) : Bool := decide (p.1 < q.1 ∨ (p.1 = q.1 ∧ p.2 < q.2))
def minP : Int × Int → List (Int × Int) → Int × Int
  | p, [] => p
  | p, q :: qs => minP (if ltP q p then q else p) qs
theorem minP_snoc (p : Int × Int) (qs : List (Int × Int)) (q : Int × Int) : minP p (qs ++ [q]) = if ltP q (minP p qs) then q else minP p qs := by
  induction qs generalizing p with
  | nil => rfl
  | cons a qs ih => exact ih _
theorem minP_best (p : Int × Int) (qs : List (Int × Int)) : ∀ k, k ≤ qs.length →
    (p :: qs)[argBest (fun i j => ltP ((p :: qs).getD i (0, 0)) ((p :: qs).getD j (0, 0))) k]? = some (minP p (qs.take k)) := by
  intro k
  induction k with
  | zero => intro _; rfl
  | succ k ih =>
    intro hk
    have e0 := ih (by omega)
    have eq1 : qs[k]? = some qs[k] := List.getElem?_eq_getElem hk
    rw [List.take_add_one, eq1]
    show _ = some (minP p (qs.take k ++ [qs[k]]))
    rw [minP_snoc]
    have e1 : (p :: qs).getD (k + 1) (0, 0) = qs[k] := by
      rw [List.getD_eq_getElem?_getD, List.getElem?_cons_succ, eq1]; rfl
    have e2 : (p :: qs).getD (argBest (fun i j => ltP ((p :: qs).getD i (0, 0)) ((p :: qs).getD j (0, 0))) k) (0, 0) = minP p (qs.take k) := by
      rw [List.getD_eq_getElem?_getD, e0]; rfl
    show (p :: qs)[if ltP ((p :: qs).getD (k + 1) (0, 0)) ((p :: qs).getD (argBest (fun i j => ltP ((p :: qs).getD i (0, 0)) ((p :: qs).getD j (0, 0))) k) (0, 0)) then k + 1 else argBest (fun i j => ltP ((p :: qs).getD i (0, 0)) ((p :: qs).getD j (0, 0))) k]? = _
    rw [e1, e2]
    split
    · rw [List.getElem?_cons_succ, eq1]
    · exact e0
def prsOf : List Val → Option (List (Int × Int))
  | [] => some []
  | .tup [.int a, .int b] :: xs => (prsOf xs).map ((a, b) :: ·)
  | _ :: _ => none
def minPO : List (Int × Int) → Option Val
  | [] => none
  | p :: qs => some (.tup [.int (minP p qs).1, .int (minP p qs).2])
def cMinP (xs : List Val) (h : AH) : Option Val := match xs with
  | [x] => match lsV h x with
    | some ys => (prsOf ys).bind minPO
    | none => none
  | _ => none
theorem prsOf_ok : ∀ {xs : List Val} {ps : List (Int × Int)}, prsOf xs = some ps → xs = ps.map fun p => .tup [.int p.1, .int p.2]
  | [], _, e => by cases e; rfl
  | x :: xs, ps, e => by
    unfold prsOf at e
    split at e
    · rename_i e0; cases e0
    · rename_i a b xs' e0
      cases e0
      cases e1 : prsOf xs with
      | none => rw [e1] at e; cases e
      | some qs =>
        rw [e1] at e
        cases e
        rw [prsOf_ok e1]
        rfl
    · cases e
def rMinP (K : PySem.W.Frag) : List V → Hp → VK → Prop := fun vs H Q => ∃ (a : Addr) (us : List V) (p : Int × Int) (qs : List (Int × Int)), vs = [V.ref a] ∧ SqL K H a us ∧ us.length = qs.length + 1 ∧
  (∀ (i : Nat) (u : V) (c : Int × Int), us[i]? = some u → (p :: qs)[i]? = some c → ∃ t, u = .ref t ∧ SqT K H t [.int c.1, .int c.2]) ∧
  ∀ u, us[argBest (fun i j => ltP ((p :: qs).getD i (0, 0)) ((p :: qs).getD j (0, 0))) qs.length]? = some u → Q u H
section
variable {X : Cx}
theorem cr_minP (calm : X.calm = true) (room : X.A.units + 64 < cLine) : CallR X (.builtin "min") (rMinP X.K) := by
  intro pins s σ H vs ws Q I r h
  obtain ⟨a, us, p, qs, rfl, sq, len, each, q⟩ := h
  obtain ⟨its, rv, pl, hz⟩ := I.list sq
  rw [Vals.ref1 r]
  have n2 : its.length = qs.length + 1 := by rw [← rv.length]; exact len
  have rd : ∀ (i : Nat) (v : Value), its.toArray[i]? = some v → ∃ as, Reads s.heap v (.tuple [.int ((p :: qs).getD i (0, 0)).1, .int ((p :: qs).getD i (0, 0)).2]) as := fun i v hv => by
    rw [List.getElem?_toArray] at hv
    have hi : i < its.length := (List.getElem?_eq_some_iff.mp hv).1
    have hu : i < us.length := by omega
    have hc : i < (p :: qs).length := by rw [List.length_cons]; omega
    obtain ⟨v2, e2, rl⟩ := rv.get (List.getElem?_eq_getElem hu)
    rw [hv] at e2
    cases e2
    obtain ⟨t, et, sqt⟩ := each i us[i] ((p :: qs)[i]) (List.getElem?_eq_getElem hu) (List.getElem?_eq_getElem hc)
    rw [et] at rl
    cases rl
    obtain ⟨its2, rv2, ⟨o, ho, hcl, n, hd⟩, _⟩ := I.tuple sqt
    have eg : (p :: qs).getD i (0, 0) = (p :: qs)[i] := by
      rw [List.getD_eq_getElem?_getD, List.getElem?_eq_getElem hc]; rfl
    rw [eg]
    cases rv2 with
    | cons r1 rr =>
      cases rr with
      | cons r2 rr =>
        cases rr
        obtain ⟨t1, rfl⟩ := r1
        obtain ⟨t2, rfl⟩ := r2
        exact ⟨_, .tuple ho hcl hd (.cons (.int _ _) (.cons (.int _ _) .nil))⟩
  refine min_list_in (fun i j => ltP ((p :: qs).getD i (0, 0)) ((p :: qs).getD j (0, 0))) (I.ok.hd calm) pl.isList (by rw [List.size_toArray]; omega) (fun i j u v s9 hu hv kept => ?_) fun v h9 t9 hv kept => ?_
  · obtain ⟨as, ru⟩ := rd i u hu
    obtain ⟨bs, rw'⟩ := rd j v hv
    have := rcLt_alike _ _ X.A.in1 s9 u v _ _ (PyProof.Rows.Reads.keeps kept ru) (PyProof.Rows.Reads.keeps kept rw') (by simp [alike, alikeAll]) (fun z => by cases z) (by
      show X.A.units + 1 + _ < cLine
      simp only [PyData.depth, PyData.depthAll]
      omega)
    rw [dataLt_ii] at this
    exact this
  · rw [List.getElem?_toArray, List.size_toArray, n2] at hv
    have e3 : qs.length + 1 - 1 = qs.length := by omega
    rw [e3] at hv
    have hi : argBest (fun i j => ltP ((p :: qs).getD i (0, 0)) ((p :: qs).getD j (0, 0))) qs.length < us.length := by
      have := (List.getElem?_eq_some_iff.mp hv).1
      omega
    obtain ⟨v2, e2, rl⟩ := rv.get (List.getElem?_eq_getElem hi)
    rw [hv] at e2
    cases e2
    exact ⟨_, H, I.kept kept, rl, q _ (List.getElem?_eq_getElem hi)⟩
theorem call_min3 (calm : X.calm = true) : CallR X (.builtin "min") (fun xs H Q => ∃ i j k, xs = [.int i, .int j, .int k] ∧ Q (.int (if j < i then (if k < j then k else j) else (if k < i then k else i))) H) := by
  intro pins s σ H xs us Q I r h
  obtain ⟨i, j, k, rfl, q⟩ := h
  cases r with
  | cons ra rr =>
    cases rr with
    | cons rb rr =>
      cases rr with
      | cons rk rr =>
        cases rr
        obtain ⟨ta, rfl⟩ := ra
        obtain ⟨tb, rfl⟩ := rb
        obtain ⟨tk, rfl⟩ := rk
        refine PySem.min_three_ints (I.ok.hd calm) fun h9 t9 kept => ⟨_, H, I.kept kept, ?_, q⟩
        split <;> split <;> exact ⟨_, rfl⟩
end
section
variable {K : KK}
theorem cm_minP : CaM K (rMinP K.K) cMinP := by
  intro r h H xs us z Q R q e k
  unfold cMinP at e
  split at e
  · rename_i x
    obtain ⟨u, rfl, qx⟩ := q.one
    split at e
    · rename_i ys e1
      cases e2 : prsOf ys with
      | none => rw [e2] at e; cases e
      | some ps =>
        rw [e2] at e
        obtain ⟨a, ws, rfl, s, t⟩ := R.lst qx e1
        cases ps with
        | nil => cases e
        | cons p qs =>
          cases e
          have ey := prsOf_ok e2
          have ly : ys.length = qs.length + 1 := by rw [ey, List.length_map, List.length_cons]
          refine ⟨a, ws, p, qs, rfl, s, by rw [t.length]; exact ly, fun i u c eu ec => ?_, fun u eu => ?_⟩
          · obtain ⟨x2, ex, rx⟩ := t.get2 eu
            rw [ey, List.getElem?_map, ec] at ex
            cases ex
            cases rx with
            | tup sqt tt =>
              cases tt with
              | cons a1 tt =>
                cases tt with
                | cons a2 tt =>
                  cases tt
                  cases a1
                  cases a2
                  exact ⟨_, rfl, sqt⟩
          · obtain ⟨x2, ex, rx⟩ := t.get2 eu
            rw [ey, List.getElem?_map, minP_best p qs _ (Nat.le_refl _), List.take_length] at ex
            cases ex
            exact now k R rx
    · cases e
  · cases e
def cMin3 (xs : List Val) (_ : AH) : Option Val := match xs with
  | [.int i, .int j, .int k] => some (.int (if j < i then (if k < j then k else j) else (if k < i then k else i)))
  | _ => none
theorem cm_min3 : CaM K (fun xs H Q => ∃ i j k, xs = [.int i, .int j, .int k] ∧ Q (.int (if j < i then (if k < j then k else j) else (if k < i then k else i))) H) cMin3 := by
  intro r h H xs us z Q R q e k
  unfold cMin3 at e
  split at e
  · cases e
    obtain ⟨u, w, v, rfl, q1, q2, q3⟩ := q.three
    cases q1; cases q2; cases q3
    exact ⟨_, _, _, rfl, now k R (.int _)⟩
  · cases e
end
section
variable {X : Cx} {W : WX} {a b c : Expr} {es : List Expr} {mt : MA} {p pos : Pos} {k : Nat}
theorem se_minP (calm : X.calm = true) (hr : Room k X.A) (hm : X.mg "min" = none) (ha : SA X W (a :: es) mt) (hg : Gl X "min" := by rfl)
    (he : starEach (a :: es) X.env = (false, eval a X.env) :: starEach es X.env := by rfl) (hpl : (backTo pos (starEach es X.env)).any (·.1) = false := by rfl) : SE X W (.Call (.Name "min" p) (a :: es) [] pos) (mCall cMinP mt) :=
  se_callB (cr_minP calm (by have := hr.un; omega)) cm_minP (by decide +kernel) hm ha hg (by decide) (by decide) he hpl
theorem se_min3 (calm : X.calm = true) (hm : X.mg "min" = none) (ha : SA X W (a :: es) mt) (hg : Gl X "min" := by rfl)
    (he : starEach (a :: es) X.env = (false, eval a X.env) :: starEach es X.env := by rfl) (hpl : (backTo pos (starEach es X.env)).any (·.1) = false := by rfl) : SE X W (.Call (.Name "min" p) (a :: es) [] pos) (mCall cMin3 mt) :=
  se_callB (call_min3 calm) cm_min3 (by decide +kernel) hm ha hg (by decide) (by decide) he hpl
end
end Mr

set_option Elab.async false
set_option linter.all false
set_option maxRecDepth 100000
set_option maxHeartbeats 1000000
namespace Mr
open PySem PySem.Spec PyProof.Rows L2
section
variable {X : Cx} {W : WX} {a b : Expr} {ma mb : ME} {p : Pos} {pos : Pos}
/-- tuple(range(j)), tuple(range(i, j)) -/
def mTRng1 (m : ME) : ME := fun sl => bnd (m sl) fun x => lft fun _ => match x with
  | .int j => if rngOk j && decide (j ≤ 16777216) then some (.tup (rngV 0 j.toNat)) else none
  | _ => none
def mTRng2 (m n : ME) : ME := fun sl => bnd (m sl) fun x => bnd (n sl) fun y => lft fun _ => match x, y with
  | .int i, .int j => if rngOk i && (rngOk j && decide (j - i ≤ 16777216)) then some (.tup (rngV i (j - i).toNat)) else none
  | _, _ => none
theorem se_trng1 {p2 pos2 : Pos} (hc : X.calm = true) (hm : X.mg "tuple" = none) (hm2 : X.mg "range" = none) (ha : SE X W a ma) (hg : Gl X "tuple" := by rfl) (hg2 : Gl X "range" := by rfl)
    (na : starEach [.Call (.Name "range" p2) [a] [] pos2] X.env = (false, eval (.Call (.Name "range" p2) [a] [] pos2) X.env) :: starEach [] X.env := by rfl) (na2 : starEach [a] X.env = (false, eval a X.env) :: starEach [] X.env := by rfl) :
    SE X W (.Call (.Name "tuple" p) [.Call (.Name "range" p2) [a] [] pos2] [] pos) (mTRng1 ma) := PE.imp (pe_tupRg hc hg hm (prg_1 hg2 hm2 ha na2) na) fun s H Q ⟨r, h, sl, R, S, o1⟩ => by
  refine ⟨r, h, sl, R, S, o1.split.mono fun x r1 h1 H1 g1 R1 o2 u q1 => ?_⟩
  obtain ⟨v, e, k⟩ := o2.lft
  split at e
  · split at e
    · rename_i hj
      cases e
      cases q1
      have hq := Bool.and_eq_true_iff.mp hj
      have h1 := rngOk_ok hq.1
      have h2 := of_decide_eq_true hq.2
      exact ⟨_, rfl, ⟨by omega, by omega, h1.1, h1.2, by omega⟩, fun l nl => cn_tup R1 (rgV_rv0 _) k nl⟩
    · cases e
  · cases e
theorem se_trng2 {p2 pos2 : Pos} (hc : X.calm = true) (hm : X.mg "tuple" = none) (hm2 : X.mg "range" = none) (ha : SE X W a ma) (hb : SE X W b mb) (hg : Gl X "tuple" := by rfl) (hg2 : Gl X "range" := by rfl)
    (na : starEach [.Call (.Name "range" p2) [a, b] [] pos2] X.env = (false, eval (.Call (.Name "range" p2) [a, b] [] pos2) X.env) :: starEach [] X.env := by rfl) (na2 : starEach [a, b] X.env = (false, eval a X.env) :: starEach [b] X.env := by rfl)
    (nb : starEach [b] X.env = (false, eval b X.env) :: starEach [] X.env := by rfl) (hp : (backTo pos2 (starEach [b] X.env)).any (·.1) = false := by rfl) :
    SE X W (.Call (.Name "tuple" p) [.Call (.Name "range" p2) [a, b] [] pos2] [] pos) (mTRng2 ma mb) := PE.imp (pe_tupRg hc hg hm (prg_2 hg2 hm2 ha hb na2 nb hp) na) fun s H Q ⟨r, h, sl, R, S, o1⟩ => by
  refine ⟨r, h, sl, R, S, o1.split.mono fun x r1 h1 H1 g1 R1 o2 u q1 => ⟨r1, h1, sl, R1, S.go g1, o2.split.mono fun y r2 h2 H2 g2 R2 o3 u2 q2 => ?_⟩⟩
  obtain ⟨v, e, k⟩ := o3.lft
  split at e
  · split at e
    · rename_i hj
      cases e
      cases q1
      cases q2
      have hq := Bool.and_eq_true_iff.mp hj
      have hq2 := Bool.and_eq_true_iff.mp hq.2
      have h1 := rngOk_ok hq.1
      have h2 := rngOk_ok hq2.1
      have h3 := of_decide_eq_true hq2.2
      exact ⟨_, _, rfl, rfl, ⟨h1.1, h1.2, h2.1, h2.2, by omega⟩, fun l nl => cn_tup R2 (rgV_rv _ _) k nl⟩
    · cases e
  · cases e
end
def tr1 (x : Val) : Option Val := match x with
  | .int j => if rngOk j && decide (j ≤ 16777216) then some (.tup (rngV 0 j.toNat)) else none
  | _ => none
def tr2 (x y : Val) : Option Val := match x, y with
  | .int i, .int j => if rngOk i && (rngOk j && decide (j - i ≤ 16777216)) then some (.tup (rngV i (j - i).toNat)) else none
  | _, _ => none
theorem mTRng1_app (m : ME) (sl : Sl) (h : AH) : mTRng1 m sl h = bdK (m sl h) fun x h1 => lfK (tr1 x) h1 := rfl
theorem mTRng2_app (m n : ME) (sl : Sl) (h : AH) : mTRng2 m n sl h = bdK (m sl h) fun x h1 => bdK (n sl h1) fun y h2 => lfK (tr2 x y) h2 := rfl
end Mr

set_option Elab.async false
set_option linter.all false
set_option maxRecDepth 100000
set_option maxHeartbeats 1000000
namespace Mr
open PySem PySem.Spec PyProof.Rows L2
/-! ### text[::-1] -/
def backS (z : Str) : Str := ⟨z.cps.toList.reverse.toArray⟩
theorem back_ix (n : Nat) : sliceRange ((n : Int) - 1) (-1) (-1) = (List.range n).reverse := by rw [PySem.W.krv_sliceRange, PySem.W.krv_range]
theorem sliceBy_back (z : Str) (t : Tok) : Txt.sliceBy z none none (-1, t) = backS z := by
  unfold Txt.sliceBy
  rw [if_neg (fun q => by
    have q1 : ((-1 : Int) == 1) = true := (Bool.and_eq_true_iff.mp q).1
    exact absurd q1 (by decide))]
  unfold backS
  have e : PySem.slicePicked z none none (some (-1, t)) = (List.range z.length).reverse := back_ix z.length
  rw [e, List.filterMap_reverse]
  exact congrArg (fun l : List Nat => (⟨l.reverse.toArray⟩ : Str)) (PySem.W.krv_all z.cps)
section
variable {X : Cx}
def tBackS (te : TE) : TE := fun σ H Q => te σ H fun x H1 => ∃ z : Str, x = .str z ∧ z.length ≤ sizeLine ∧ Q (.str (backS z)) H1
theorem pe_backS {e : Expr} {te : TE} {k : Nat} {p1 p2 p3 pos : Pos} (he : PE X e te) : PE X (.Subscript e (.Slice none none (some (.UnaryOp .USub (.Constant (.int 1) k p1) p2)) p3) pos) (tBackS te) := by
  refine ⟨fun pins s σ H Q I h => ?_⟩
  refine Subscript_ (thn (he.run pins s σ H _ I h) fun v s1 ⟨x, H1, I1, r1, z, ex, zl, q⟩ => ?_)
  subst ex
  obtain ⟨tz, rfl⟩ := r1
  have hst : PO X (some (.UnaryOp .USub (.Constant (.int 1) k p1) p2)) (tPart (tUn (rU fun i => .int (-i)) (tC (.int 1)))) := po_some (pe_un un_neg pe_int)
  refine wpAny_Slice (thn (po_none.run pins s1 σ H1 (fun o H2 => o = none ∧ H2 = H1) I1 ⟨rfl, rfl⟩) fun vl s2 ⟨l, H2, I2, pl, el, e2⟩ => ?_)
  subst el e2
  cases pl
  refine thn (po_none.run pins s2 σ H2 (fun o H3 => o = none ∧ H3 = H2) I2 ⟨rfl, rfl⟩) fun vu s3 ⟨u, H3, I3, pu, eu, e3⟩ => ?_
  subst eu e3
  cases pu
  refine thn (hst.run pins s3 σ H3 (fun o H4 => o = some (-1) ∧ H4 = H3) I3 ⟨1, rfl, -1, rfl, rfl, rfl⟩) fun vs s4 ⟨o, H4, I4, ps, eo, e4⟩ => ?_
  subst eo e4
  cases ps with
  | int i ts =>
    have I5 : Inv X pins σ H4 { s4 with heap := s4.heap.push { cls := .type "slice", data := .fields #[.none, .none, .int (-1) ts] } } := I4.kept (t' := s4.toks) fun b ob q => Heap.get?_push_of_some _ q
    show wpAny (model X.prog X.w) X.A (subscriptTail e (.Slice none none (some (.UnaryOp .USub (.Constant (.int 1) k p1) p2)) p3) (.str z tz) (.ref s4.heap.objs.size)) (EP X pins σ Q) X.xe { s4 with heap := s4.heap.push { cls := .type "slice", data := .fields #[.none, .none, .int (-1) ts] } }
    refine tail_any (ops := [.ref s4.heap.objs.size, .str z tz]) (T := "str") (typeIs_str _ _ _) F.slot_str_getitem.lookup ?_ (by with_unfolding_all rfl)
    refine wpAny_getItem_str_slice (l := none) (u := none) (st := some (-1, ts)) ⟨_, Heap.get?_push_size _ rfl, rfl, rfl⟩ rfl (post_val_or_str ?_)
    have eb := sliceBy_back z ts
    unfold Txt.sliceBy at eb
    rw [eb]
    refine ⟨by rw [show (backS z).length = z.length from by unfold backS Str.length; simp]; exact zl, fun t' c => ⟨.str (backS z), H4, I5.tok _, ⟨_, rfl⟩, q⟩⟩
end
def mBackS (m : ME) : ME := fun sl => bnd (m sl) fun x => lft fun _ => match x with
  | .str z => if sizeOk z.length then some (.str (backS z)) else none
  | _ => none
def bkS (x : Val) : Option Val := match x with
  | .str z => if sizeOk z.length then some (.str (backS z)) else none
  | _ => none
theorem mBackS_app (m : ME) (sl : Sl) (h : AH) : mBackS m sl h = bdK (m sl h) fun x h1 => lfK (bkS x) h1 := rfl
section
variable {X : Cx} {W : WX} {e : Expr} {me : ME} {pos : Pos}
theorem se_backS {k : Nat} {p1 p2 p3 : Pos} (ha : SE X W e me) : SE X W (.Subscript e (.Slice none none (some (.UnaryOp .USub (.Constant (.int 1) k p1) p2)) p3) pos) (mBackS me) := PE.imp (pe_backS ha) fun s H Q ⟨r, h, sl, R, S, o1⟩ => by
  refine ⟨r, h, sl, R, S, o1.split.mono fun x r1 h1 H1 g1 R1 o2 u q1 => ?_⟩
  obtain ⟨v, ev, kk⟩ := o2.lft
  split at ev
  · rename_i z
    split at ev
    · rename_i ok
      cases ev
      cases q1
      exact ⟨z, rfl, sizeOk_le ok, now kk R1 (.str _)⟩
    · cases ev
  · cases ev
end
end Mr

set_option Elab.async false
set_option linter.all false
set_option maxRecDepth 100000
set_option maxHeartbeats 1000000
namespace Mr
open PySem PySem.Spec PyProof.Rows L2
/-! ### dicts whose keys are tuples of ints and texts -/
theorem valK_kV (ks : List Key) : ks.map valK = ks.map kV := List.map_congr_left fun k _ => by cases k <;> rfl
def dtAt (h : AH) : Val → Option (List (List Key) × List Val)
  | .ref n => match h[n]? with
    | some (.dt ks vs) => some (ks, vs)
    | _ => none
  | _ => none
def valM {α : Type} (ks : List (List Key)) (vs : List α) (k : List Key) : Option α := ((ks.zip vs).find? fun p => decide (p.1 = k)).map (·.2)
def putKs (ks : List (List Key)) (k : List Key) : List (List Key) := if (ks.any fun q => decide (q = k)) = true then ks else ks ++ [k]
def putVs {α : Type} (ks : List (List Key)) (vs : List α) (k : List Key) (v : α) : List α := if (ks.any fun q => decide (q = k)) = true then (ks.zip vs).map (fun p => if p.1 = k then v else p.2) else vs ++ [v]
theorem any_zip {α : Type} (k : List Key) : ∀ (ks : List (List Key)) (vs : List α), ks.length = vs.length → ((ks.zip vs).any fun p => decide (p.1 = k)) = ks.any fun q => decide (q = k)
  | [], _, _ => rfl
  | q :: ks, [], h => by simp at h
  | q :: ks, v :: vs, h => by
    rw [List.zip_cons_cons, List.any_cons, List.any_cons, any_zip k ks vs (by simpa using h)]
theorem zip_self_map {α : Type} (k : List Key) (v : α) : ∀ (ks : List (List Key)) (vs : List α), ks.length = vs.length → (ks.zip vs).map (fun p => if p.1 = k then (p.1, v) else p) = ks.zip ((ks.zip vs).map fun p => if p.1 = k then v else p.2)
  | [], _, _ => rfl
  | q :: ks, [], h => by simp at h
  | q :: ks, u :: vs, h => by
    rw [List.zip_cons_cons, List.map_cons, List.map_cons, List.zip_cons_cons, zip_self_map k v ks vs (by simpa using h)]
    congr 1
    by_cases z : q = k
    · simp [z]
    · simp [z]
theorem zip_put (k : List Key) (v : V) (ks : List (List Key)) (vs : List V) (h : ks.length = vs.length) : putK (ks.zip vs) k v = (putKs ks k).zip (putVs ks vs k v) ∧ (putKs ks k).length = (putVs ks vs k v).length := by
  unfold putK putKs putVs
  rw [any_zip k ks vs h]
  split
  · exact ⟨zip_self_map k v ks vs h, by rw [List.length_map, List.length_zip, h, Nat.min_self]⟩
  · refine ⟨?_, by rw [List.length_append, List.length_append, h]; rfl⟩
    rw [List.zip_append h]
    rfl
section
variable {K : KK} {r : Rg} {H : Hp} {h : AH}
theorem rvs_rep {k : List Key} {v : Val} {u : V} (q : RV K r H v u) : ∀ (ks : List (List Key)) {xs : List Val} {us : List V}, RVs K r H xs us → RVs K r H ((ks.zip xs).map fun p => if p.1 = k then v else p.2) ((ks.zip us).map fun p => if p.1 = k then u else p.2)
  | [], _, _, _ => .nil
  | _ :: _, _, _, .nil => .nil
  | q0 :: ks, _, _, .cons a b => by
    rw [List.zip_cons_cons, List.zip_cons_cons, List.map_cons, List.map_cons]
    refine .cons ?_ (rvs_rep q ks b)
    dsimp only
    split
    · exact q
    · exact a
theorem rvs_put {k : List Key} {v : Val} {u : V} (q : RV K r H v u) {ks : List (List Key)} {xs : List Val} {us : List V} (t : RVs K r H xs us) : RVs K r H (putVs ks xs k v) (putVs ks us k u) := by
  unfold putVs
  split
  · exact rvs_rep q ks t
  · exact t.append (.cons q .nil)
theorem rvs_val {k : List Key} : ∀ {ks : List (List Key)} {xs : List Val} {us : List V}, RVs K r H xs us → (∀ v, valM ks xs k = some v → ∃ u, valV (ks.zip us) k = some u ∧ RV K r H v u) ∧ (valM ks xs k = none → valV (ks.zip us) k = none)
  | [], _, _, _ => ⟨fun v e => (by cases e), fun _ => rfl⟩
  | q :: ks, _, _, .nil => ⟨fun v e => (by cases e), fun _ => rfl⟩
  | q :: ks, _, _, .cons (x := x) (xs := xs) (u := u) (us := us) a b => by
    obtain ⟨i1, i2⟩ := rvs_val (k := k) (ks := ks) b
    unfold valM valV at *
    rw [List.zip_cons_cons, List.zip_cons_cons, List.find?_cons, List.find?_cons]
    by_cases z : q = k
    · subst z
      simp only [decide_true]
      exact ⟨fun v e => (by cases e; exact ⟨u, rfl, a⟩), fun e => (by cases e)⟩
    · simp only [z, decide_false]
      exact ⟨i1, i2⟩
theorem Rel.dt (R : Rel K r h H) {v : Val} {u : V} {ks : List (List Key)} {vs : List Val} (q : RV K r H v u) (e : dtAt h v = some (ks, vs)) : ∃ a us, u = .ref a ∧ H a = some (.dT (ks.zip us)) ∧ ks.length = us.length ∧ RVs K r H vs us := by
  unfold dtAt at e
  split at e
  · rename_i n
    split at e
    · rename_i ks2 vs2 e2
      cases e
      cases q with
      | @ref _ _ _ a ea =>
        obtain ⟨us, h1, h2, h3⟩ := R.ob n a _ ea e2
        exact ⟨a, us, rfl, h1, h2, h3⟩
    · cases e
  · cases e
end
section
variable {X : Cx} {W : WX} {pos p : Pos}
def mDictT0 : ME := fun _ h => .ok (.ref h.length) (h ++ [.dt [] []])
theorem se_dictT0 : SE X W (.Dict [] [] pos) mDictT0 := PE.imp pe_dnewT fun s H Q ⟨r, h, sl, R, S, o1⟩ q nq => by
  have nm : q ∉ r.m := fun z => by
    obtain ⟨u, e⟩ := R.md q z
    rw [nq] at e; cases e
  have nf : ¬ r.fz q := fun z => by
    obtain ⟨u, e⟩ := R.fd q z
    rw [nq] at e; cases e
  have g : Go r H (r.add q) (upd H q (.dT [])) := go_addN (go_new nq) nq
  refine o1 (r.add q) _ g ((R.newu nq).add nm nf ⟨[], upd_same, rfl, .nil⟩ ⟨_, upd_same⟩) _ (.ref ?_)
  rw [← R.len, List.getElem?_append_right (Nat.le_refl _), Nat.sub_self]
  rfl
end
end Mr

set_option Elab.async false
set_option linter.all false
set_option maxRecDepth 100000
set_option maxHeartbeats 1000000
namespace Mr
open PySem PySem.Spec PyProof.Rows L2
section
variable {X : Cx} {W : WX} {o : Expr} {es : List Expr} {md : ME} {mt : MA} {pos p : Pos} {k : Nat}
def getM (d : Val) (ys : List Val) (h : AH) : Option Val := match dtAt h d with
  | some (ks, vs) => match kysOf ys with
    | some q => if sizeOk ys.length then valM ks vs q else none
    | none => none
  | none => none
/-- d[e, ..] -/
def mGetT (md : ME) (mt : MA) : ME := fun sl => bnd (md sl) fun d => bnd (mt sl) fun ys => lft (getM d ys)
theorem mGetT_app (sl : Sl) (h : AH) : mGetT md mt sl h = bdK (md sl h) fun d h1 => bdK (mt sl h1) fun ys h2 => lfK (getM d ys h2) h2 := rfl
theorem se_getT (hr : Room k X.A) (ho : SE X W o md) (ht : SA X W es mt) {x1 : Nat} (hs : NoSl (.Tuple es x1 p) := by intro _ _; rfl) : SE X W (.Subscript o (.Tuple es x1 p) pos) (mGetT md mt) :=
  PE.imp (pe_dget (by have := hr.un; omega) ho (pe_tup ht) hs) fun s H Q ⟨r, h, sl, R, S, o1⟩ => by
  refine ⟨r, h, sl, R, S, o1.split.mono fun d r1 h1 H1 g1 R1 o2 u q1 => ⟨r1, h1, sl, R1, S.go g1, o2.split.mono fun ys r2 h2 H2 g2 R2 o3 us q2 => ?_⟩⟩
  obtain ⟨v, e, kk⟩ := o3.lft
  unfold getM at e
  split at e
  · rename_i ks vs ed
    split at e
    · rename_i q ek
      split at e
      · rename_i ok
        obtain ⟨a, ws, rfl, hd, ln, rv⟩ := R2.dt (q1.go g2) ed
        have eu := kysOf_ok q2 ek
        obtain ⟨w, ew, rw'⟩ := (rvs_val rv).1 v e
        refine ⟨q2.sizeL ok, fun t nt => ⟨a, w, rfl, ?_, ?_⟩⟩
        · have ne : t ≠ a := fun z => by rw [z, hd] at nt; cases nt
          have := DGet.t (H := upd H2 t (.tup us)) (a := a) (b := t) (kvs := ks.zip ws) (k := q) (by rw [upd_ne (Ne.symm ne)]; exact hd) (by rw [upd_same, eu, valK_kV])
          rw [ew] at this
          exact this
        · have g : Go r2 H2 r2 (upd H2 t (.tup us)) := go_new nt
          exact kk r2 _ g (R2.newu nt) _ (rw'.go g)
      · cases e
    · cases e
  · cases e
end
end Mr

set_option Elab.async false
set_option linter.all false
set_option maxRecDepth 100000
set_option maxHeartbeats 1000000
namespace Mr
open PySem PySem.Spec PyProof.Rows L2
section
variable {X : Cx} {W : WX} {o e : Expr} {es : List Expr} {md mv : ME} {mt : MA} {pos p pos' : Pos} {k : Nat}
def inM (neg : Bool) (ys : List Val) (d : Val) (h : AH) : Option Val := match dtAt h d with
  | some (ks, vs) => match kysOf ys with
    | some q => some (.bl (if neg = true then !(valM ks vs q).isSome else (valM ks vs q).isSome))
    | none => none
  | none => none
/-- (e, ..) in d, (e, ..) not in d -/
def mInT (neg : Bool) (mt : MA) (md : ME) : ME := fun sl => bnd (mt sl) fun ys => if sizeOk ys.length = true then bnd (md sl) fun d => lft (inM neg ys d) else fail
theorem inT_run {neg : Bool} {s : L2.St} {H : Hp} {Q : VK} (z : tE X.kk W (mInT neg mt md) s H Q) :
    tTup (tA X.kk W mt) s H fun y H1 => tE X.kk W md s H1 fun x H2 => ∃ a ov, x = .ref a ∧ DGet H2 a y ov ∧ Q (.bl (if neg = true then !ov.isSome else ov.isSome)) H2 := by
  obtain ⟨r, h, sl, R, S, o1⟩ := z
  refine ⟨r, h, sl, R, S, o1.split.mono fun ys r1 h1 H1 g1 R1 o2 us q1 => ?_⟩
  split at o2
  · rename_i ok
    refine ⟨q1.sizeL ok, fun t nt => ?_⟩
    have g : Go r1 H1 r1 (upd H1 t (.tup us)) := go_new nt
    have tm : t ∉ r1.m := fun z => by
      obtain ⟨u, e⟩ := R1.md t z
      rw [nt] at e; cases e
    refine ⟨r1, h1, sl, R1.newu nt, (S.go g1).go g, (o2.base g).split.mono fun d r2 h2 H2 g2 R2 o3 u q2 => ?_⟩
    obtain ⟨v, ev, kk⟩ := o3.lft
    unfold inM at ev
    split at ev
    · rename_i ks vs ed
      split at ev
      · rename_i q ek
        cases ev
        obtain ⟨a, ws, rfl, hd, ln, rv⟩ := R2.dt q2 ed
        have eu := kysOf_ok q1 ek
        have ht : H2 t = some (.tup (q.map kV)) := by
          rw [g2.fr t (.tup us) upd_same tm, eu, valK_kV]
        refine ⟨a, _, rfl, DGet.t hd ht, ?_⟩
        obtain ⟨i1, i2⟩ := rvs_val (k := q) (ks := ks) rv
        have es : (valV (ks.zip ws) q).isSome = (valM ks vs q).isSome := by
          cases em : valM ks vs q with
          | none => rw [i2 em]; rfl
          | some v =>
            obtain ⟨w, ew, _⟩ := i1 v em
            rw [ew]; rfl
        rw [es]
        exact now kk R2 (.bl _)
      · cases ev
    · cases ev
  · exact o2.elim
theorem se_notInT {x1 : Nat} (hr : Room k X.A) (ht : SA X W es mt) (hd : SE X W o md) (hm : behindInMarks .NotIn o = false := by rfl) : SE X W (.Compare (.Tuple es x1 p) [.NotIn] [o] pos) (mInT true mt md) :=
  PE.imp (pe_cmp (pc_dnotin (by have := hr.un; omega) (pe_tup ht) hd) hm) fun s H Q z => inT_run z
theorem se_inT {x1 : Nat} (hr : Room k X.A) (ht : SA X W es mt) (hd : SE X W o md) (hm : behindInMarks .In o = false := by rfl) : SE X W (.Compare (.Tuple es x1 p) [.In] [o] pos) (mInT false mt md) :=
  PE.imp (pe_cmp (pc_din (by have := hr.un; omega) (pe_tup ht) hd) hm) fun s H Q z => inT_run z
/-- d[e, ..] = v -/
def setM (d : Val) (ys : List Val) (v : Val) (h : AH) : Option AH := match d, dtAt h d with
  | .ref n, some (ks, vs) => match kysOf ys with
    | some q => if sizeOk ys.length && decide (ks.length < 16777216) then some (h.set n (.dt (putKs ks q) (putVs ks vs q v))) else none
    | none => none
  | _, _ => none
def mSetT (md : ME) (mt : MA) (mv : ME) : MS := fun sl => sB (mv sl) sl fun v => sB (md sl) sl fun d => sB (mt sl) sl fun ys h => (setM d ys v h).map fun h' => (.nx sl, h')
theorem ss_setT {x1 : Nat} (hr : Room k X.A) (ho : SE X W o md) (ht : SA X W es mt) (hv : SE X W e mv) (hs : swapsWith e (some (.Subscript o (.Tuple es x1 p) pos')) pos.line X.env = pure false := by rfl) :
    SS X W (.Assign [.Subscript o (.Tuple es x1 p) pos'] e pos) (mSetT md mt mv) := PS.imp (ps_dput (by have := hr.un; omega) ho (pe_tup ht) hv hs) fun D s H ⟨r, h, sl, R, S, z⟩ => by
  refine ⟨r, h, sl, R, S, (z.sB S).mono fun v r1 h1 H1 g1 R1 z1 u q1 => ⟨r1, h1, sl, R1, S.go g1, (OutS.sB z1 (S.go g1)).mono fun d r2 h2 H2 g2 R2 z2 w q2 => ⟨r2, h2, sl, R2, S.go (g1.trans g2), (OutS.sB z2 (S.go (g1.trans g2))).mono fun ys r3 h3 H3 g3 R3 z3 us q3 => ?_⟩⟩⟩
  have q2' := q2.go g3
  have q1' := q1.go (g2.trans g3)
  have S3 := S.go (g1.trans (g2.trans g3))
  cases e4 : setM d ys v h3 with
  | none => rw [e4] at z3; exact z3.elim
  | some h4 =>
    rw [e4] at z3
    unfold setM at e4
    split at e4
    · rename_i n ks vs ed
      split at e4
      · rename_i q ek
        split at e4
        · rename_i okk
          obtain ⟨ok, sm⟩ := Bool.and_eq_true_iff.mp okk
          cases e4
          cases q2' with
          | @ref _ _ _ a ea =>
            have en : h3[n]? = some (.dt ks vs) := by
              unfold dtAt at ed
              dsimp only at ed
              split at ed
              · rename_i e5; cases ed; exact e5
              · cases ed
            obtain ⟨ws, hd, ln, rv⟩ := R3.ob n a _ ea en
            have eu := kysOf_ok q3 ek
            obtain ⟨zp, zl⟩ := zip_put q u ks ws ln
            refine ⟨q3.sizeL ok, fun t nt => ?_⟩
            have ne : t ≠ a := fun z => by rw [z, hd] at nt; cases nt
            have g : Go r3 H3 r3 (upd H3 t (.tup us)) := go_new nt
            have R4 := R3.newu (u := .tup us) nt
            have hd2 : upd H3 t (.tup us) a = some (.dT (ks.zip ws)) := by rw [upd_ne (Ne.symm ne)]; exact hd
            refine ⟨a, _, rfl, DPut.t (k := q) hd2 (by rw [upd_same, eu, valK_kV]) ?_, ?_⟩
            · rw [List.length_zip, ← ln, Nat.min_self]
              have := of_decide_eq_true sm
              rw [sizeLine_eq]; omega
            · have gs := go_set (u' := .dT (putK (ks.zip ws) q u)) R4 ea en rfl hd2 trivial
              have R5 := R4.set (o' := .dt (putKs ks q) (putVs ks vs q v)) ea en rfl hd2 trivial (u' := .dT (putK (ks.zip ws) q u)) ⟨putVs ks ws q u, by rw [upd_same, zp], zl, rvs_put ((q1'.go g).go gs) ((rv.go g).go gs)⟩
              exact z3 r3 _ (g.trans gs) R5 s (S3.go (g.trans gs))
        · cases e4
      · cases e4
    · cases e4
end
end Mr

set_option Elab.async false
set_option linter.all false
set_option maxRecDepth 100000
set_option maxHeartbeats 1000000
namespace Mr
open PySem PySem.Spec PyProof.Rows L2
section
variable {X : Cx} {W : WX} {o : Expr} {es : List Expr} {md : ME} {mt : MA} {pos p : Pos} {k : Nat}
theorem st_notInT {x1 : Nat} (hr : Room k X.A) (ht : SA X W es mt) (hd : SE X W o md) (hm : behindInMarks .NotIn o = false := by rfl) : ST X W (.Compare (.Tuple es x1 p) [.NotIn] [o] pos) (mTest (mInT true mt md)) :=
  PT.imp (pt_cmp (pc_dnotin (by have := hr.un; omega) (pe_tup ht) hd) hm) fun s H Q z => inT_run (mTest_run z)
theorem st_inT {x1 : Nat} (hr : Room k X.A) (ht : SA X W es mt) (hd : SE X W o md) (hm : behindInMarks .In o = false := by rfl) : ST X W (.Compare (.Tuple es x1 p) [.In] [o] pos) (mTest (mInT false mt md)) :=
  PT.imp (pt_cmp (pc_din (by have := hr.un; omega) (pe_tup ht) hd) hm) fun s H Q z => inT_run (mTest_run z)
end
end Mr

set_option Elab.async false
set_option linter.all false
set_option maxRecDepth 100000
set_option maxHeartbeats 1000000
namespace Mr
open PySem PySem.Spec PyProof.Rows L2
/-! ### for x in a new list, whose items may be changed -/
def mIterN (m : MN) : MI := fun sl => bnd (m sl) fun z => match z with
  | .n xs => ret xs
  | .v _ => fail
section
variable {X : Cx} {W : WX}
theorem si_new {tg l : Expr} {m : MN} (hl : SN X W l m) : SI X W tg l (mIterN m) := PI.imp (pi_list hl) fun s H Q ⟨r, h, sl, R, S, o⟩ => by
  refine ⟨r, h, sl, R, S, ?_⟩
  unfold mIterN bnd at o
  cases q : m sl h with
  | bad => rw [q] at o; exact o.elim
  | exc c f v h1 => rw [q] at o; exact o
  | ok z h1 =>
    rw [q] at o
    dsimp only at o
    intro r1 H1 g1 R1
    cases z with
    | v x => exact o.elim
    | n xs =>
      intro a us na ha n1 n2 qv
      refine ⟨a, rfl, ⟨us, SqL.of ha⟩, o (r1.ice a) H1 (go_iceN g1 na) (R1.ice n1 ⟨_, ha⟩) _ (itr_list fun r2 H2 g2 => ?_)⟩
      exact ⟨us, SqL.of (g2.fh _ _ (.inr rfl) ha), RVs.vo g2 (RVs.vo vo_ice qv)⟩
end
def inK (z : NV) (h : AH) : Res (List Val) := match z with
  | .n xs => .ok xs h
  | .v _ => .bad
theorem mIterN_app (m : MN) (sl : Sl) (h : AH) : mIterN m sl h = bdK (m sl h) inK := by
  unfold mIterN
  rw [bnd_app]
  cases m sl h with
  | ok z h1 => cases z <;> rfl
  | _ => rfl
theorem inK_n (xs : List Val) (h : AH) : inK (.n xs) h = .ok xs h := rfl
end Mr

set_option Elab.async false
set_option linter.all false
set_option maxRecDepth 100000
set_option maxHeartbeats 1000000
namespace Mr
open PySem PySem.Spec PyProof.Rows L2
/-! ### what repr shows, told by the data -/
/-- in the heap h, v is the datum d: of depth at most k, shown in at most b signs -/
structure Rh (h : AH) (k b : Nat) (v : Val) (d : PyData) : Prop where
  rd : ∀ n, k ≤ n → datR h n v = some d
  sh : d.showable = true
  dp : d.depth ≤ k
  ln : d.shown.length ≤ b
structure Rhs (h : AH) (k b : Nat) (xs : List Val) (ds : List PyData) : Prop where
  rd : ∀ n, k ≤ n → datW (datR h n) xs = some ds
  sh : PyData.showableAll ds = true
  dp : PyData.depthAll ds ≤ k
  ln : piled (PyData.shownAll ds) ≤ b
section
variable {h : AH} {k b k' b' : Nat} {v : Val} {d : PyData} {xs : List Val} {ds : List PyData}
theorem Rh.mono (r : Rh h k b v d) (h1 : k ≤ k') (h2 : b ≤ b') : Rh h k' b' v d := ⟨fun n hn => r.rd n (by omega), r.sh, by have := r.dp; omega, by have := r.ln; omega⟩
theorem Rhs.mono (r : Rhs h k b xs ds) (h1 : k ≤ k') (h2 : b ≤ b') : Rhs h k' b' xs ds := ⟨fun n hn => r.rd n (by omega), r.sh, by have := r.dp; omega, by have := r.ln; omega⟩
theorem Rh.non : Rh h 1 4 .non .none := ⟨fun n hn => by
  obtain ⟨m, rfl⟩ : ∃ m, n = m + 1 := ⟨n - 1, by omega⟩
  rfl, by simp [PyData.showable], by simp [PyData.depth], by simp only [PyData.shown]; decide⟩
theorem Rh.bl (c : Bool) : Rh h 1 5 (.bl c) (.bool c) := ⟨fun n hn => by
  obtain ⟨m, rfl⟩ : ∃ m, n = m + 1 := ⟨n - 1, by omega⟩
  rfl, by simp [PyData.showable], by simp [PyData.depth], by simp only [PyData.shown]; cases c <;> decide⟩
theorem Rh.int {i : Int} (hi : i.natAbs.log2 < 1920) : Rh h 1 1921 (.int i) (.int i) := ⟨fun n hn => by
  obtain ⟨m, rfl⟩ : ∃ m, n = m + 1 := ⟨n - 1, by omega⟩
  rfl, by simp only [PyData.showable]; exact decide_eq_true hi, by simp [PyData.depth], by simp only [PyData.shown]; exact int_text_len_1921 hi⟩
theorem Rh.nat {i : Nat} (h1 : i ≤ 1000000000000) : Rh h 1 1921 (.int (i : Int)) (.int (i : Int)) := Rh.int (log_small (by omega) (by omega))
theorem Rh.str {x : Str} (hx : ∀ c ∈ x.cps.toList, c < 0x110000) : Rh h 1 (10 * x.length + 2) (.str x) (.str x) := ⟨fun n hn => by
  obtain ⟨m, rfl⟩ : ∃ m, n = m + 1 := ⟨n - 1, by omega⟩
  rfl, by simp [PyData.showable], by simp [PyData.depth], by simp only [PyData.shown]; exact StrLaws.reprText_len x fun c hc => by have := hx c hc; omega⟩
theorem Rhs.nil : Rhs h 0 0 [] [] := ⟨fun n hn => rfl, by simp [PyData.showableAll], by simp [PyData.depthAll], by simp [PyData.shownAll, piled]⟩
theorem Rhs.cons (r : Rh h k b v d) (rs : Rhs h k' b' xs ds) : Rhs h (max k k') (b + 2 + b') (v :: xs) (d :: ds) := ⟨fun n hn => by
  unfold datW
  rw [r.rd n (by omega)]
  dsimp only
  rw [rs.rd n (by omega)]
  rfl, by simp only [PyData.showableAll, r.sh, rs.sh, Bool.and_self], by
    have := r.dp
    have := rs.dp
    simp only [PyData.depthAll]; omega, by
    have := r.ln
    have := rs.ln
    simp only [PyData.shownAll]
    rw [piled_cons]
    omega⟩
theorem Rhs.map {α : Type} (e : α → Val) (g : α → PyData) : ∀ l : List α, (∀ x ∈ l, Rh h k b (e x) (g x)) → Rhs h k (l.length * (b + 2)) (l.map e) (l.map g)
  | [], _ => Rhs.nil.mono (Nat.zero_le _) (Nat.zero_le _)
  | x :: l, hl => by
    have r := Rhs.cons (hl x List.mem_cons_self) (Rhs.map e g l fun y hy => hl y (List.mem_cons_of_mem _ hy))
    rw [List.map_cons, List.map_cons]
    exact r.mono (by omega) (by rw [List.length_cons, Nat.succ_mul]; omega)
theorem Rh.tup (r : Rhs h k b xs ds) : Rh h (k + 1) (b + 3) (.tup xs) (.tuple ds) := ⟨fun n hn => by
  obtain ⟨m, rfl⟩ : ∃ m, n = m + 1 := ⟨n - 1, by omega⟩
  show (datW (datR h m) xs).map PyData.tuple = _
  rw [r.rd m (by omega)]
  rfl, by simpa only [PyData.showable] using r.sh, by simp only [PyData.depth]; have := r.dp; omega, by
    simp only [PyData.shown]
    have := tupleText_le (PyData.shownAll ds)
    have := r.ln
    omega⟩
theorem list_ok (r : Rhs h k b xs ds) : (PyData.list ds).showable = true ∧ (PyData.list ds).depth ≤ k + 1 ∧ (PyData.list ds).shown.length ≤ b + 3 := by
  refine ⟨by simpa only [PyData.showable] using r.sh, by simp only [PyData.depth]; have := r.dp; omega, ?_⟩
  simp only [PyData.shown]
  have := listText_le (PyData.shownAll ds)
  have := r.ln
  omega
theorem Rh.fl (r : Rhs h k b xs ds) : Rh h (k + 1) (b + 3) (.fl xs) (.list ds) := ⟨fun n hn => by
  obtain ⟨m, rfl⟩ : ∃ m, n = m + 1 := ⟨n - 1, by omega⟩
  show (datW (datR h m) xs).map PyData.list = _
  rw [r.rd m (by omega)]
  rfl, (list_ok r).1, (list_ok r).2.1, (list_ok r).2.2⟩
theorem Rh.sl (r : Rhs h k b xs ds) : Rh h (k + 1) (b + 3) (.sl xs) (.list ds) := ⟨fun n hn => by
  obtain ⟨m, rfl⟩ : ∃ m, n = m + 1 := ⟨n - 1, by omega⟩
  show (datW (datR h m) xs).map PyData.list = _
  rw [r.rd m (by omega)]
  rfl, (list_ok r).1, (list_ok r).2.1, (list_ok r).2.2⟩
theorem Rh.ref {j : Nat} (e : h[j]? = some (.lst xs)) (r : Rhs h k b xs ds) : Rh h (k + 1) (b + 3) (.ref j) (.list ds) := ⟨fun n hn => by
  obtain ⟨m, rfl⟩ : ∃ m, n = m + 1 := ⟨n - 1, by omega⟩
  have el : lstAt h j = some xs := by unfold lstAt; rw [e]
  show (match lstAt h j with
    | some xs => (datW (datR h m) xs).map PyData.list
    | none => none) = _
  rw [el]
  show (datW (datR h m) xs).map PyData.list = _
  rw [r.rd m (by omega)]
  rfl, (list_ok r).1, (list_ok r).2.1, (list_ok r).2.2⟩
/-- the text -/
theorem Rh.repr (r : Rh h k b v d) (hk : k ≤ 30) (hb : b ≤ 16777216) : cReprD [v] h = some (.str d.shown) := by
  show (match datR h 30 v with
    | some d => if showOkD d then some (Val.str d.shown) else none
    | none => none) = _
  rw [r.rd 30 hk]
  have : showOkD d = true := by
    unfold showOkD
    rw [r.sh, decide_eq_true (show d.depth ≤ 40 by have := r.dp; omega), decide_eq_true (show d.shown.length ≤ 16777216 by have := r.ln; omega)]
    rfl
  show (if showOkD d = true then some (Val.str d.shown) else none) = _
  rw [if_pos this]
end
end Mr

set_option Elab.async false
set_option linter.all false
set_option maxRecDepth 100000
set_option maxHeartbeats 1000000
namespace W
open PySem L2 Mr
/-! ### two things that are shown alike -/
theorem new_at (h : AH) (o : AO) : (h ++ [o])[h.length]? = some o := by rw [List.getElem?_append_right (Nat.le_refl _), Nat.sub_self]; rfl
theorem keep_at {h : AH} {n : Nat} {o : AO} (e : h[n]? = some o) (x : AH) : (h ++ x)[n]? = some o := by rw [List.getElem?_append_left (List.getElem?_eq_some_iff.mp e).1]; exact e
theorem repr_alike {X Y : MN} {sl : Sl} {h h1 h2 : AH} {xs ys : List Val} {ds : List PyData} {k b : Nat} (eX : X sl h = .ok (.n xs) h1) (eY : Y sl (h1 ++ [.lst xs]) = .ok (.n ys) h2) (rX : Rhs (h1 ++ [.lst xs]) k b xs ds) (rY : Rhs (h2 ++ [.lst ys]) k b ys ds) (hk : k < 30) (hb : b + 3 ≤ 16777216) :
    mTest (mOp oNe (mCall cReprD (mCons (mT X) mNil)) (mCall cReprD (mCons (mT Y) mNil))) sl h = .ok false (h2 ++ [.lst ys]) := by
  have r1 := (Rh.ref (new_at h1 (.lst xs)) rX).repr (by omega) hb
  have r2 := (Rh.ref (new_at h2 (.lst ys)) rY).repr (by omega) hb
  simp -implicitDefEqProofs only [RR, sz0, sz1, sz2, sz3, wipeM, List.set_cons_succ, List.set_cons_zero, List.getElem?_cons_succ, List.getElem?_cons_zero, ↓reduceIte, Bool.false_eq_true, List.length_cons, List.length_nil, Nat.zero_add, Nat.reduceAdd, beq_self_eq_true, Bool.not_true, Bool.not_false, List.cons_append, List.nil_append, List.append_nil, decide_true, decide_false, Bool.true_and, Bool.and_true, eX, eY, NVT_n, r1, r2, oNe_rfl_str]
theorem mDictT0_app (sl : Sl) (h : AH) : mDictT0 sl h = .ok (.ref h.length) (h ++ [.dt [] []]) := rfl
theorem cutL_to {α : Type} (xs : List α) (p : Nat) : cutL xs none (some (p : Int)) = xs.take p := by
  unfold cutL
  rw [HT.sIx_none, HT.sIx_nat, List.drop_zero, Nat.sub_zero]
  rcases Nat.le_total p xs.length with h | h
  · rw [Nat.min_eq_left h]
  · rw [Nat.min_eq_right h, List.take_length, List.take_of_length_le h]
theorem cutL_from {α : Type} (xs : List α) (p : Nat) : cutL xs (some (p : Int)) none = xs.drop p := by
  unfold cutL
  rw [HT.sIx_none, HT.sIx_nat]
  rcases Nat.le_total p xs.length with h | h
  · rw [Nat.min_eq_left h, List.take_of_length_le (by rw [List.length_drop]; omega)]
  · rw [Nat.min_eq_right h, List.drop_length, List.drop_of_length_le h, List.take_nil]
theorem cutL_mid {α : Type} (xs : List α) (p q : Nat) : cutL xs (some (p : Int)) (some (q : Int)) = (xs.take q).drop p := by
  unfold cutL
  have e : ∀ k : Nat, HT.sIx xs.length 0 (some (k : Int)) = min k xs.length := fun k => by
    unfold HT.sIx
    dsimp only
    split <;> omega
  have e2 : ∀ k : Nat, HT.sIx xs.length xs.length (some (k : Int)) = min k xs.length := fun k => by
    unfold HT.sIx
    dsimp only
    split <;> omega
  rw [e, e2, List.drop_take]
  by_cases h1 : p ≤ xs.length
  · rw [Nat.min_eq_left h1]
    by_cases h2 : q ≤ xs.length
    · rw [Nat.min_eq_left h2]
    · rw [Nat.min_eq_right (by omega), List.take_of_length_le (by rw [List.length_drop]; omega), List.take_of_length_le (by rw [List.length_drop]; omega)]
  · rw [show min p xs.length = xs.length from Nat.min_eq_right (by omega), List.drop_eq_nil_of_le (Nat.le_refl xs.length), List.drop_eq_nil_of_le (show xs.length ≤ p by omega)]
    simp
/-- own lists that are read -/
theorem lst_of {h : AH} {n : Nat} {xs : List Val} (e : h[n]? = some (.lst xs)) : lstAt h n = some xs ∧ mutAt h n = some xs ∧ tyC "list" (.ref n) h = some () := by
  refine ⟨?_, ?_, ?_⟩
  · unfold lstAt; rw [e]
  · unfold mutAt; rw [e]
  · have t : isTy "list" h (.ref n) = true := by
      unfold isTy
      dsimp only
      rw [e]
      rfl
    unfold tyC
    rw [if_pos t]
/-! ### == with a list of the own heap -/
theorem dat_ref {h : AH} {k : Nat} {xs : List Val} (hk : h[k]? = some (.lst xs)) (n : Nat) : dat h n (.ref k) = dat h n (.fl xs) := by
  have hk := (lst_of hk).1
  cases n with
  | zero => rfl
  | succ n =>
    show (match lstAt h k with
      | some xs => (datW (dat h n) xs).map PyData.list
      | none => none) = (datW (dat h n) xs).map PyData.list
    rw [hk]
theorem oNe_ref {h : AH} {k : Nat} {xs ys : List Val} (hk : h[k]? = some (.lst xs)) : oNe (.ref k) (.fl ys) h = oNe (.fl xs) (.fl ys) h := by
  have e : eqB (.ref k) (.fl ys) h = eqB (.fl xs) (.fl ys) h := by
    show (match dat h 30 (.ref k), dat h 30 (.fl ys) with
      | some d, some e => some (PyData.eqv d e)
      | _, _ => none) = _
    rw [dat_ref hk]
    rfl
  unfold oNe
  rw [e]
theorem oNe_tref {h : AH} {k : Nat} {v : Val} {xs ys : List Val} (hk : h[k]? = some (.lst xs)) : oNe (.tup [v, .ref k]) (.tup ys) h = oNe (.tup [v, .fl xs]) (.tup ys) h := by
  have d : dat h 30 (.tup [v, .ref k]) = dat h 30 (.tup [v, .fl xs]) := by
    show (datW (dat h 29) [v, .ref k]).map PyData.tuple = (datW (dat h 29) [v, .fl xs]).map PyData.tuple
    congr 1
    unfold datW
    cases dat h 29 v with
    | none => rfl
    | some d =>
      dsimp only
      unfold datW
      rw [dat_ref hk 29]
  have e : eqB (.tup [v, .ref k]) (.tup ys) h = eqB (.tup [v, .fl xs]) (.tup ys) h := by
    show (match dat h 30 (.tup [v, .ref k]), dat h 30 (.tup ys) with
      | some d, some e => some (PyData.eqv d e)
      | _, _ => none) = _
    rw [d]
    rfl
  unfold oNe
  rw [e]
theorem oEq_tref {h : AH} {k : Nat} {v : Val} {xs ys : List Val} (hk : h[k]? = some (.lst xs)) : oEq (.tup [v, .ref k]) (.tup ys) h = oEq (.tup [v, .fl xs]) (.tup ys) h := by
  have e := oNe_tref (v := v) (ys := ys) hk
  unfold oNe at e
  unfold oEq
  cases e1 : eqB (.tup [v, .ref k]) (.tup ys) h with
  | none =>
    rw [e1] at e
    cases e2 : eqB (.tup [v, .fl xs]) (.tup ys) h with
    | none => rfl
    | some b => rw [e2] at e; cases e
  | some b =>
    rw [e1] at e
    cases e2 : eqB (.tup [v, .fl xs]) (.tup ys) h with
    | none => rw [e2] at e; cases e
    | some c =>
      rw [e2] at e
      have : (!b) = (!c) := by injection e with e; injection e
      cases b <;> cases c <;> first | rfl | cases this
end W

set_option Elab.async false
set_option linter.all false
set_option maxRecDepth 100000
set_option maxHeartbeats 1000000
namespace W
/-! ### slips between two words -/
def ne1 (x y : Nat) : Nat := if x = y then 0 else 1
/-- an alignment of a with b, at cost c -/
inductive Al : List Nat → List Nat → Nat → Prop
  | nil : Al [] [] 0
  | del {x : Nat} {a b : List Nat} {c : Nat} : Al a b c → Al (x :: a) b (c + 1)
  | ins {y : Nat} {a b : List Nat} {c : Nat} : Al a b c → Al a (y :: b) (c + 1)
  | sub {x y : Nat} {a b : List Nat} {c : Nat} : Al a b c → Al (x :: a) (y :: b) (c + ne1 x y)
  | swp {x y : Nat} {a b : List Nat} {c : Nat} : x ≠ y → Al a b c → Al (x :: y :: a) (y :: x :: b) (c + 1)
theorem Al.join {a b : List Nat} {c : Nat} (h : Al a b c) {a2 b2 : List Nat} {c2 : Nat} (g : Al a2 b2 c2) : Al (a ++ a2) (b ++ b2) (c + c2) := by
  induction h with
  | nil => simpa using g
  | @del x a b c h ih => have := Al.del (x := x) ih; rw [show c + c2 + 1 = c + 1 + c2 by omega] at this; exact this
  | @ins y a b c h ih => have := Al.ins (y := y) ih; rw [show c + c2 + 1 = c + 1 + c2 by omega] at this; exact this
  | @sub x y a b c h ih => have := Al.sub (x := x) (y := y) ih; rw [show c + c2 + ne1 x y = c + ne1 x y + c2 by omega] at this; exact this
  | @swp x y a b c n h ih => have := Al.swp n ih; rw [show c + c2 + 1 = c + 1 + c2 by omega] at this; exact this
theorem Al.rev {a b : List Nat} {c : Nat} (h : Al a b c) : Al a.reverse b.reverse c := by
  induction h with
  | nil => exact .nil
  | @del x a b c h ih => have := ih.join (Al.del (x := x) .nil); rw [List.reverse_cons]; simpa using this
  | @ins y a b c h ih => have := ih.join (Al.ins (y := y) .nil); rw [List.reverse_cons]; simpa using this
  | @sub x y a b c h ih => have := ih.join (Al.sub (x := x) (y := y) .nil); rw [List.reverse_cons, List.reverse_cons]; simpa using this
  | @swp x y a b c n h ih =>
    have := ih.join (Al.swp (Ne.symm n) .nil)
    rw [List.reverse_cons, List.reverse_cons, List.reverse_cons, List.reverse_cons, List.append_assoc, List.append_assoc]
    simpa using this
theorem Al.sym {a b : List Nat} {c : Nat} (h : Al a b c) : Al b a c := by
  induction h with
  | nil => exact .nil
  | del _ ih => exact .ins ih
  | ins _ ih => exact .del ih
  | @sub x y a b c _ ih =>
    have e : ne1 x y = ne1 y x := by unfold ne1; by_cases z : x = y <;> simp [z, eq_comm]
    rw [e]; exact .sub ih
  | swp n _ ih => exact .swp (Ne.symm n) ih
theorem Al.diff {a b : List Nat} {c : Nat} (h : Al a b c) : a.length ≤ b.length + c ∧ b.length ≤ a.length + c := by
  induction h with
  | nil => exact ⟨Nat.le_refl _, Nat.le_refl _⟩
  | del _ ih => simp only [List.length_cons]; omega
  | ins _ ih => simp only [List.length_cons]; omega
  | sub _ ih => simp only [List.length_cons]; omega
  | swp _ _ ih => simp only [List.length_cons]; omega
theorem Al.same {a b : List Nat} {c : Nat} (h : Al a b c) : c = 0 → a = b := by
  induction h with
  | nil => intro _; rfl
  | del _ ih => intro z; omega
  | ins _ ih => intro z; omega
  | @sub x y a b c _ ih =>
    intro z
    have e : x = y := by
      unfold ne1 at z
      by_cases q : x = y
      · exact q
      · rw [if_neg q] at z; omega
    rw [e, ih (by omega)]
  | swp _ _ ih => intro z; omega
/-- the law's recursion -/
def sp : List Nat → List Nat → Nat
  | [], b => b.length
  | x :: a, [] => (x :: a).length
  | x :: a, y :: b => if a.head? = some y ∧ b.head? = some x ∧ x ≠ y then min (min (min (sp a (y :: b)) (sp (x :: a) b) + 1) (sp a b + ne1 x y)) (sp a.tail b.tail + 1)
    else min (min (sp a (y :: b)) (sp (x :: a) b) + 1) (sp a b + ne1 x y)
termination_by a b => a.length + b.length
decreasing_by
  all_goals simp only [List.length_cons, List.length_tail]
  all_goals omega
theorem al_right : ∀ b : List Nat, Al [] b b.length
  | [] => .nil
  | y :: b => .ins (al_right b)
theorem al_left : ∀ a : List Nat, Al a [] a.length
  | [] => .nil
  | x :: a => .del (al_left a)
theorem min_al {a b : List Nat} {m n : Nat} (h : Al a b m) (g : Al a b n) : Al a b (min m n) := by
  rcases Nat.le_total m n with z | z
  · rw [Nat.min_eq_left z]; exact h
  · rw [Nat.min_eq_right z]; exact g
theorem sp_al : ∀ (k : Nat) (a b : List Nat), a.length + b.length = k → Al a b (sp a b) := by
  intro k
  induction k using Nat.strongRecOn with
  | ind k ih =>
    intro a b hk
    cases a with
    | nil => rw [sp]; exact al_right b
    | cons x a =>
      cases b with
      | nil => rw [sp]; exact al_left _
      | cons y b =>
        simp only [List.length_cons] at hk
        have h1 : Al (x :: a) (y :: b) (sp a (y :: b) + 1) := .del (ih (a.length + (y :: b).length) (by simp only [List.length_cons]; omega) a (y :: b) rfl)
        have h2 : Al (x :: a) (y :: b) (sp (x :: a) b + 1) := .ins (ih ((x :: a).length + b.length) (by simp only [List.length_cons]; omega) (x :: a) b rfl)
        have h3 : Al (x :: a) (y :: b) (sp a b + ne1 x y) := .sub (ih _ (by omega) a b rfl)
        have ht : Al (x :: a) (y :: b) (min (min (sp a (y :: b)) (sp (x :: a) b) + 1) (sp a b + ne1 x y)) := by
          refine min_al ?_ h3
          have := min_al h1 h2
          rw [show min (sp a (y :: b)) (sp (x :: a) b) + 1 = min (sp a (y :: b) + 1) (sp (x :: a) b + 1) by omega]
          exact this
        rw [sp]
        split
        · rename_i c
          obtain ⟨c1, c2, c3⟩ := c
          cases a with
          | nil => cases c1
          | cons x2 a2 =>
            cases b with
            | nil => cases c2
            | cons y2 b2 =>
              have e1 : x2 = y := Option.some.inj c1
              have e2 : y2 = x := Option.some.inj c2
              subst e1; subst e2
              simp only [List.length_cons] at hk
              exact min_al ht (.swp c3 (ih (a2.length + b2.length) (by omega) a2 b2 rfl))
        · exact ht
theorem sp_pair (x : Nat) (a : List Nat) (y : Nat) (b : List Nat) : sp (x :: a) (y :: b) ≤ sp a (y :: b) + 1 ∧ sp (x :: a) (y :: b) ≤ sp (x :: a) b + 1 ∧ sp (x :: a) (y :: b) ≤ sp a b + ne1 x y := by
  rw [sp]
  split <;> omega
theorem sp_swap {x y : Nat} (n : x ≠ y) (a b : List Nat) : sp (x :: y :: a) (y :: x :: b) ≤ sp a b + 1 := by
  rw [sp, if_pos ⟨rfl, rfl, n⟩]
  show min _ (sp a b + 1) ≤ _
  omega
theorem sp_least {a b : List Nat} {c : Nat} (h : Al a b c) : sp a b ≤ c := by
  induction h with
  | nil => rw [sp]; exact Nat.le_refl _
  | @del x a b c h ih =>
    cases b with
    | nil =>
      rw [sp]
      have := h.diff
      simp only [List.length_cons, List.length_nil] at this ⊢
      omega
    | cons y b => have := (sp_pair x a y b).1; omega
  | @ins y a b c h ih =>
    cases a with
    | nil =>
      rw [sp]
      have := h.diff
      simp only [List.length_cons, List.length_nil] at this ⊢
      omega
    | cons x a => have := (sp_pair x a y b).2.1; omega
  | @sub x y a b c h ih => have := (sp_pair x a y b).2.2; omega
  | @swp x y a b c n h ih => have := sp_swap n a b; omega
theorem al_sp (a b : List Nat) : Al a b (sp a b) := sp_al _ a b rfl
theorem sp_rev (a b : List Nat) : sp a.reverse b.reverse = sp a b := by
  refine Nat.le_antisymm (sp_least (al_sp a b).rev) ?_
  have := sp_least (al_sp a.reverse b.reverse).rev
  rw [List.reverse_reverse, List.reverse_reverse] at this
  exact this
theorem sp_sym (a b : List Nat) : sp a b = sp b a := Nat.le_antisymm (sp_least (al_sp b a).sym) (sp_least (al_sp a b).sym)
theorem al_self : ∀ a : List Nat, Al a a 0
  | [] => .nil
  | x :: a => by
    have := Al.sub (x := x) (y := x) (al_self a)
    have e : ne1 x x = 0 := if_pos rfl
    rw [e] at this
    exact this
theorem sp_zero (a b : List Nat) : sp a b = 0 ↔ a = b := ⟨fun h => (al_sp a b).same h, fun h => by
  subst h
  have := sp_least (al_self a)
  omega⟩
theorem sp_diff (a b : List Nat) : a.length ≤ b.length + sp a b ∧ b.length ≤ a.length + sp a b := (al_sp a b).diff
theorem sp_most : ∀ (a b : List Nat), sp a b ≤ max a.length b.length
  | [], b => by rw [sp]; omega
  | x :: a, [] => by rw [sp]; omega
  | x :: a, y :: b => by
    have h1 := (sp_pair x a y b).2.2
    have h2 := sp_most a b
    have h3 : ne1 x y ≤ 1 := by unfold ne1; split <;> omega
    simp only [List.length_cons]
    omega
end W

set_option Elab.async false
set_option linter.all false
set_option maxRecDepth 100000
set_option maxHeartbeats 4000000
namespace W
open PySem L2 Mr
abbrev P : Program := PySem.Challenge.pw_everrow_k68_slips_and_nearest_names
def top (i : Nat) : Stmt := P.main.body.getD i (.Pass ⟨0, 0, 0, 0⟩)
structure Tx (mg : Str → Option Value) : Prop where
  f_ValueError : mg "ValueError" = none
  f_abs : mg "abs" = none
  f_bool : mg "bool" = none
  f_enumerate : mg "enumerate" = none
  f_int : mg "int" = none
  f_isinstance : mg "isinstance" = none
  f_len : mg "len" = none
  f_list : mg "list" = none
  f_max : mg "max" = none
  f_min : mg "min" = none
  f_range : mg "range" = none
  f_repr : mg "repr" = none
  f_set : mg "set" = none
  f_sorted : mg "sorted" = none
  f_str : mg "str" = none
  f_tuple : mg "tuple" = none
  f_zip : mg "zip" = none
  c_LETTERS : ∃ t, mg "LETTERS" = some (.str "abcdefghijklmnopqrstuvwxyz" t)
  c_MOST_LETTERS : ∃ t, mg "MOST_LETTERS" = some (.int 8 t)
  c_MOST_NAMES : ∃ t, mg "MOST_NAMES" = some (.int 8 t)
  c_LONGEST : ∃ t, mg "LONGEST" = some (.int 10 t)
  c_MOST_SLIPS : ∃ t, mg "MOST_SLIPS" = some (.int 3 t)
structure CTab (K : PySem.W.Frag) (mg : Str → Option Value) : Prop where
  ok : True
  m_InvalidText : mg "InvalidText" = some (.ref (He.ga K "InvalidText"))
  m_InvalidList : mg "InvalidList" = some (.ref (He.ga K "InvalidList"))
  m_InvalidItem : mg "InvalidItem" = some (.ref (He.ga K "InvalidItem"))
  m_InvalidNumber : mg "InvalidNumber" = some (.ref (He.ga K "InvalidNumber"))
  e_InvalidText : ExcC K (He.ga K "InvalidText")
  e_InvalidList : ExcC K (He.ga K "InvalidList")
  e_InvalidItem : ExcC K (He.ga K "InvalidItem")
  e_InvalidNumber : ExcC K (He.ga K "InvalidNumber")
  n_InvalidText : PySem.W.findIn K (.ref (He.ga K "InvalidText")) "value" = some none
  n_InvalidList : PySem.W.findIn K (.ref (He.ga K "InvalidList")) "value" = some none
  n_InvalidItem : PySem.W.findIn K (.ref (He.ga K "InvalidItem")) "value" = some none
  n_InvalidNumber : PySem.W.findIn K (.ref (He.ga K "InvalidNumber")) "value" = some none
  sys : SysD K
noncomputable def b__law_draws : MS := mRet (mT (mLst (mCons (mOp oMod (mCall cInt (mCons (mVar 0) (mNil))) (mOp oPow (mOp oPow (mOp oPow (mC (.int 10)) (mC (.int 60))) (mC (.int 60))) (mC (.int 4)))) (mCons (mC (.int 0)) (mCons (mOp oGe (mVar 0) (mOp oPow (mC (.int 10)) (mC (.int 18)))) (mNil))))))
noncomputable abbrev m__law_draws : List Val → M Val := mFn 1 1 b__law_draws
noncomputable def b__law_next : MS := mSeq (mSub (mVar 0) (mC (.int 1)) (mF (mOpN oAdd (mOp oIx (mVar 0) (mC (.int 1))) (mC (.int 1))))) (mSeq (mSet 1 (mOp oIx (mVar 0) (mC (.int 1)))) (mSeq (mIfS (mTest (mOp oIx (mVar 0) (mC (.int 2)))) (mSeq (mSet 2 (mOp oMod (mCall cInt (mCons (mOp oIx (mVar 0) (mC (.int 0))) (mNil))) (mOp oPow (mC (.int 10)) (mC (.int 6))))) (mSeq (mSub (mVar 0) (mC (.int 0)) (mOp oDiv (mOp oIx (mVar 0) (mC (.int 0))) (mOp oPow (mC (.int 10)) (mC (.int 6))))) (mRet (mVar 2)))) (mNext)) (mSeq (mSet 2 (mOp oMod (mCall cInt (mCons (mF (mOpN oMul (mF (mOpN oAdd (mF (mOpN oAdd (mOp oMod (mCall cInt (mCons (mOp oIx (mVar 0) (mC (.int 0))) (mNil))) (mC (.int 1000003))) (mF (mOpN oMul (mF (mOpN oMul (mVar 1) (mVar 1))) (mC (.int 7919)))))) (mVar 1))) (mC (.int 48271)))) (mNil))) (mC (.int 2147483629)))) (mSeq (mSet 2 (mOp oMod (mCall cInt (mCons (mF (mOpN oMul (mVar 2) (mVar 2))) (mNil))) (mC (.int 2147483587)))) (mRet (mOp oDiv (mOp oMod (mCall cInt (mCons (mF (mOpN oMul (mVar 2) (mF (mOpN oAdd (mVar 2) (mC (.int 2)))))) (mNil))) (mC (.int 2147483579))) (mC (.int 7))))))))
noncomputable abbrev m__law_next : List Val → M Val := mFn 1 3 b__law_next
noncomputable def b__law_string : MS := mRet (mMeth "str" fJoin (mC (.str "")) (mCons (mF (mLc (mRng1 (mCons (mOp oMod (mCall cInt (mCons (mF (mCallM 0 m__law_next [] (mCons (mVar 0) (mNil)))) (mNil))) (mF (mOpN oAdd (mVar 1) (mC (.int 1))))) (mNil))) (.nm 2) (mYes) (mOp oIx (mC (.str "abcab")) (mOp oMod (mCall cInt (mCons (mF (mCallM 0 m__law_next [] (mCons (mVar 0) (mNil)))) (mNil))) (mC (.int 5)))) [2])) (mNil)))
noncomputable abbrev m__law_string : List Val → M Val := mFn 2 3 b__law_string
noncomputable def b__law_book : MS := mSeq (mSet 1 (mF (mLc (mRng1 (mCons (mF (mOpN oAdd (mC (.int 1)) (mOp oMod (mCall cInt (mCons (mF (mCallM 0 m__law_next [] (mCons (mVar 0) (mNil)))) (mNil))) (mC (.int 3))))) (mNil))) (.nm 2) (mYes) (mF (mOpN oAdd (mF (mCallM 0 m__law_string [] (mCons (mVar 0) (mCons (mC (.int 5)) (mNil))))) (mOp oIx (mC (.str "abc")) (mVar 2)))) [2]))) (mRet (mT (mCallN cSortSet (mCons (mVar 1) (mNil)))))
noncomputable abbrev m__law_book : List Val → M Val := mFn 1 3 b__law_book
noncomputable def b__law_slips (bb : MS) : MS := mSeq (mIfS (mOr (mTest (mOp oEq (mVar 0) (mC (.str "")))) (mTest (mOp oEq (mVar 1) (mC (.str ""))))) (mRet (mT (mOpN oAdd (mCall cLen (mCons (mVar 0) (mNil))) (mCall cLen (mCons (mVar 1) (mNil)))))) (mNext)) (mSeq (mIfS (mTest (mInT true (mCons (mVar 0) (mCons (mVar 1) (mNil))) (mVar 2))) (mSeq (mSet 3 (mF (mOpN oAdd (mCall cMin2 (mCons (mF (mCallM 2 (mFn 3 4 bb) [] (mCons (mF (mSl (mVar 0) (mPart (mC (.int 1))) (mNoPart))) (mCons (mVar 1) (mCons (mVar 2) (mNil)))))) (mCons (mF (mCallM 2 (mFn 3 4 bb) [] (mCons (mVar 0) (mCons (mF (mSl (mVar 1) (mPart (mC (.int 1))) (mNoPart))) (mCons (mVar 2) (mNil)))))) (mNil)))) (mC (.int 1))))) (mSeq (mSet 3 (mCall cMin2 (mCons (mVar 3) (mCons (mF (mOpN oAdd (mF (mCallM 2 (mFn 3 4 bb) [] (mCons (mF (mSl (mVar 0) (mPart (mC (.int 1))) (mNoPart))) (mCons (mF (mSl (mVar 1) (mPart (mC (.int 1))) (mNoPart))) (mCons (mVar 2) (mNil)))))) (mCall cInt (mCons (mOp oNe (mOp oIx (mVar 0) (mC (.int 0))) (mOp oIx (mVar 1) (mC (.int 0)))) (mNil))))) (mNil))))) (mSeq (mIfS (mAnd (mTest (mOp oEq (mF (mSl (mVar 0) (mNoPart) (mPart (mC (.int 2))))) (mBackS (mF (mSl (mVar 1) (mNoPart) (mPart (mC (.int 2)))))))) (mAnd (mTest (mOp oGt (mCall cLen (mCons (mVar 0) (mNil))) (mC (.int 1)))) (mAnd (mTest (mOp oGt (mCall cLen (mCons (mVar 1) (mNil))) (mC (.int 1)))) (mTest (mOp oNe (mOp oIx (mVar 0) (mC (.int 0))) (mOp oIx (mVar 0) (mC (.int 1)))))))) (mSet 3 (mCall cMin2 (mCons (mVar 3) (mCons (mF (mOpN oAdd (mF (mCallM 2 (mFn 3 4 bb) [] (mCons (mF (mSl (mVar 0) (mPart (mC (.int 2))) (mNoPart))) (mCons (mF (mSl (mVar 1) (mPart (mC (.int 2))) (mNoPart))) (mCons (mVar 2) (mNil)))))) (mC (.int 1)))) (mNil))))) (mNext)) (mSetT (mVar 2) (mCons (mVar 0) (mCons (mVar 1) (mNil))) (mVar 3))))) (mNext)) (mRet (mGetT (mVar 2) (mCons (mVar 0) (mCons (mVar 1) (mNil))))))
noncomputable def bs__law_slips : Nat → MS
  | 0 => mNever
  | k + 1 => b__law_slips (bs__law_slips k)
noncomputable abbrev mr__law_slips (k : Nat) : List Val → M Val := mFn 3 4 (bs__law_slips k)
noncomputable abbrev m__law_slips : List Val → M Val := mFn 3 4 (bs__law_slips 40)
noncomputable def b_are_letters : MS := mSeq (mIfS (mOr (mNot (mTest (mIsi "str" (mVar 0)))) (mNot (mTest (mChain oLe oLe (mVar 1) (mCall cLen (mCons (mVar 0) (mNil))) (mVar 2))))) (mRet (mC (.bl false))) (mNext)) (mRet (mOp (oEmp false) (mF (mLc (mIter (mVar 0)) (.nm 3) (mTest (mOp oNotIn (mVar 3) (mC (.str "abcdefghijklmnopqrstuvwxyz")))) (mVar 3) [3])) (mF (mLst (mNil)))))
noncomputable abbrev m_are_letters : List Val → M Val := mFn 3 4 b_are_letters
noncomputable def b_check_string : MS := mIfS (mNot (mTest (mF (mCallP m_are_letters [] (mCons (mVar 0) (mCons (mC (.int 0)) (mCons (mC (.int 10)) (mNil)))))))) (mRaise "InvalidText" "value" (mVar 0)) (mNext)
noncomputable abbrev m_check_string : List Val → M Val := mFn 1 1 b_check_string
noncomputable def b_begun : MS := mRet (mTup (mCons (mTup (mNil)) (mCons (mTRng1 (mF (mOpN oAdd (mCall cLen (mCons (mVar 0) (mNil))) (mC (.int 1))))) (mNil))))
noncomputable abbrev m_begun : List Val → M Val := mFn 1 1 b_begun
noncomputable def l_slipped_0 : MS := mSeq (mSet 8 (mCall cMin3 (mCons (mF (mOpN oAdd (mOp oIx (mVar 7) (mVar 5)) (mC (.int 1)))) (mCons (mF (mOpN oAdd (mOp oIx (mVar 4) (mOp oSub (mVar 5) (mC (.int 1)))) (mC (.int 1)))) (mCons (mF (mOpN oAdd (mOp oIx (mVar 7) (mOp oSub (mVar 5) (mC (.int 1)))) (mCall cInt (mCons (mOp oNe (mOp oIx (mVar 0) (mOp oSub (mVar 5) (mC (.int 1)))) (mVar 3)) (mNil))))) (mNil)))))) (mSeq (mIfS (mAnd (mTest (mOp oGt (mVar 5) (mC (.int 1)))) (mAnd (mTest (mOp oNe (mVar 2) (mVar 3))) (mAnd (mTest (mOp oEq (mOp oIx (mVar 0) (mOp oSub (mVar 5) (mC (.int 2)))) (mVar 3))) (mTest (mOp oEq (mOp oIx (mVar 0) (mOp oSub (mVar 5) (mC (.int 1)))) (mVar 2)))))) (mSet 8 (mCall cMin2 (mCons (mVar 8) (mCons (mF (mOpN oAdd (mOp oIx (mVar 6) (mOp oSub (mVar 5) (mC (.int 2)))) (mC (.int 1)))) (mNil))))) (mNext)) (mDrop (mMethH "list" fAppend (mVar 4) (mCons (mVar 8) (mNil)))))
noncomputable def b_slipped : MS := mSeq (mAsg (.tp [.nm 6, .nm 7]) (mVar 1)) (mSeq (mSet 4 (mT (mLst (mCons (mF (mOpN oAdd (mOp oIx (mVar 7) (mC (.int 0))) (mC (.int 1)))) (mNil))))) (mSeq (mFor (mRng2 (mCons (mC (.int 1)) (mCons (mF (mOpN oAdd (mCall cLen (mCons (mVar 0) (mNil))) (mC (.int 1)))) (mNil)))) (.nm 5) l_slipped_0) (mRet (mTup (mCons (mVar 7) (mCons (mCall cTup (mCons (mVar 4) (mNil))) (mNil)))))))
noncomputable abbrev m_slipped : List Val → M Val := mFn 4 9 b_slipped
noncomputable def l_slips_in_0 : MS := mPar 3 4 (mCons (mF (mCallP m_slipped [] (mCons (mVar 0) (mCons (mVar 3) (mCons (mVar 4) (mCons (mVar 2) (mNil))))))) (mCons (mVar 2) (mNil)))
noncomputable def b_slips_in : MS := mSeq (mPar 3 4 (mCons (mF (mCallP m_begun [] (mCons (mVar 0) (mNil)))) (mCons (mC .non) (mNil)))) (mSeq (mFor (mIter (mVar 1)) (.nm 2) l_slips_in_0) (mRet (mOp oIx (mOp oIx (mVar 3) (mC (.int 1))) (mUn uNeg (mC (.int 1))))))
noncomputable abbrev m_slips_in : List Val → M Val := mFn 2 5 b_slips_in
noncomputable def b_slips : MS := mSeq (mDrop (mF (mCallP m_check_string [] (mCons (mVar 0) (mNil))))) (mSeq (mDrop (mF (mCallP m_check_string [] (mCons (mVar 1) (mNil))))) (mRet (mT (mCallP m_slips_in [] (mCons (mVar 0) (mCons (mVar 1) (mNil)))))))
noncomputable abbrev m_slips : List Val → M Val := mFn 2 2 b_slips
noncomputable def b_is_name : MS := mSeq (mIfS (mOr (mNot (mTest (mIsi "str" (mVar 0)))) (mNot (mTest (mChain oLe oLe (mC (.int 1)) (mCall cLen (mCons (mVar 0) (mNil))) (mC (.int 8)))))) (mRet (mC (.bl false))) (mNext)) (mRet (mOp (oEmp false) (mF (mLc (mIter (mVar 0)) (.nm 1) (mTest (mOp oNotIn (mVar 1) (mC (.str "abcdefghijklmnopqrstuvwxyz")))) (mVar 1) [1])) (mF (mLst (mNil)))))
noncomputable abbrev m_is_name : List Val → M Val := mFn 1 2 b_is_name
noncomputable def l_check_book_0 : MS := mIfS (mOr (mNot (mTest (mF (mCallP m_is_name [] (mCons (mVar 2) (mNil)))))) (mAnd (mTest (mOp oGt (mVar 1) (mC (.int 0)))) (mTest (mOp oLe (mVar 2) (mOp oIx (mVar 0) (mOp oSub (mVar 1) (mC (.int 1)))))))) (mRaise "InvalidItem" "value" (mVar 2)) (mNext)
noncomputable def b_check_book : MS := mSeq (mIfS (mOr (mNot (mTest (mIsi "list" (mVar 0)))) (mNot (mTest (mChain oLe oLe (mC (.int 1)) (mCall cLen (mCons (mVar 0) (mNil))) (mC (.int 8)))))) (mRaise "InvalidList" "value" (mVar 0)) (mNext)) (mFor (mEnum (mCons (mVar 0) (mNil))) (.tp [.nm 1, .nm 2]) l_check_book_0)
noncomputable abbrev m_check_book : List Val → M Val := mFn 1 3 b_check_book
noncomputable def b_nearest_in : MS := mSeq (mSet 2 (mF (mLc (mIter (mVar 0)) (.nm 3) (mYes) (mF (mCallP m_slips_in [] (mCons (mVar 3) (mCons (mVar 1) (mNil))))) [3]))) (mRet (mTup (mCons (mCall cMinL (mCons (mVar 2) (mNil))) (mCons (mT (mLc (mZip (mCons (mVar 0) (mCons (mVar 2) (mNil)))) (.tp [.nm 3, .nm 4]) (mTest (mOp oEq (mVar 4) (mCall cMinL (mCons (mVar 2) (mNil))))) (mVar 3) [3, 4])) (mNil)))))
noncomputable abbrev m_nearest_in : List Val → M Val := mFn 2 5 b_nearest_in
noncomputable def b_nearest : MS := mSeq (mDrop (mF (mCallP m_check_book [] (mCons (mVar 0) (mNil))))) (mSeq (mDrop (mF (mCallP m_check_string [] (mCons (mVar 1) (mNil))))) (mRet (mCallT m_nearest_in [] (mCons (mVar 0) (mCons (mVar 1) (mNil))))))
noncomputable abbrev m_nearest : List Val → M Val := mFn 2 2 b_nearest
noncomputable def b_is_whole : MS := mRet (mAndV (mIsi "int" (mVar 0)) (mNotV (mIsi "bool" (mVar 0))))
noncomputable abbrev m_is_whole : List Val → M Val := mFn 1 1 b_is_whole
noncomputable def b_check_most : MS := mIfS (mOr (mNot (mTest (mF (mCallP m_is_whole [] (mCons (mVar 0) (mNil)))))) (mNot (mTest (mChain oLe oLe (mC (.int 0)) (mVar 0) (mC (.int 3)))))) (mRaise "InvalidNumber" "value" (mVar 0)) (mNext)
noncomputable abbrev m_check_most : List Val → M Val := mFn 1 1 b_check_most
noncomputable def b_mended_in : MS := mSeq (mAsg (.tp [.nm 3, .nm 4]) (mCallT m_nearest_in [] (mCons (mVar 0) (mCons (mVar 1) (mNil))))) (mRet (mIf (mTest (mOp oLe (mVar 3) (mVar 2))) (mOp oIx (mVar 4) (mC (.int 0))) (mC .non)))
noncomputable abbrev m_mended_in : List Val → M Val := mFn 3 5 b_mended_in
noncomputable def b_mended : MS := mSeq (mDrop (mF (mCallP m_check_book [] (mCons (mVar 0) (mNil))))) (mSeq (mDrop (mF (mCallP m_check_string [] (mCons (mVar 1) (mNil))))) (mSeq (mDrop (mF (mCallP m_check_most [] (mCons (mVar 2) (mNil))))) (mRet (mT (mCallP m_mended_in [] (mCons (mVar 0) (mCons (mVar 1) (mCons (mVar 2) (mNil)))))))))
noncomputable abbrev m_mended : List Val → M Val := mFn 3 3 b_mended
noncomputable def l__law_right_0 : MS := mSeq (mSet 9 (mIf (mTest (mOp oLe (mCall cMinL (mCons (mVar 5) (mNil))) (mVar 8))) (mOp oIx (mVar 6) (mC (.int 0))) (mC .non))) (mIfS (mTest (mOp oNe (mCall cReprD (mCons (mT (mLst (mCons (mF (mCallP m_mended [] (mCons (mVar 3) (mCons (mVar 1) (mCons (mVar 8) (mNil)))))) (mCons (mF (mCallK m_mended 0 3 [2, 1, 0] mNil (mCons (mVar 8) (mCons (mVar 1) (mCons (mVar 3) (mNil)))))) (mNil))))) (mNil))) (mCall cReprD (mCons (mT (mLst (mCons (mVar 9) (mCons (mVar 9) (mNil))))) (mNil))))) (mRet (mC (.bl false))) (mNext))
noncomputable def b__law_right : MS := mSeq (mSet 4 (mF (mCallM 2 m__law_slips [] (mCons (mVar 1) (mCons (mVar 2) (mCons (mDictT0) (mNil))))))) (mSeq (mIfS (mTest (mOp oNe (mCall cReprD (mCons (mT (mLst (mCons (mF (mCallP m_slips [] (mCons (mVar 1) (mCons (mVar 2) (mNil))))) (mCons (mF (mCallK m_slips 0 2 [1, 0] mNil (mCons (mVar 1) (mCons (mVar 2) (mNil))))) (mCons (mF (mCallP m_slips [] (mCons (mBackS (mVar 1)) (mCons (mBackS (mVar 2)) (mNil))))) (mNil)))))) (mNil))) (mCall cReprD (mCons (mT (mOpN oMul (mF (mLst (mCons (mVar 4) (mNil)))) (mC (.int 3)))) (mNil))))) (mRet (mC (.bl false))) (mNext)) (mSeq (mIfS (mOr (mTest (mOp oNe (mOp oEq (mVar 4) (mC (.int 0))) (mOp oEq (mVar 1) (mVar 2)))) (mNot (mTest (mChain oLe oLe (mCall cAbs (mCons (mOp oSub (mCall cLen (mCons (mVar 1) (mNil))) (mCall cLen (mCons (mVar 2) (mNil)))) (mNil))) (mVar 4) (mCall cMax2 (mCons (mCall cLen (mCons (mVar 1) (mNil))) (mCons (mCall cLen (mCons (mVar 2) (mNil))) (mNil)))))))) (mRet (mC (.bl false))) (mNext)) (mSeq (mSet 5 (mF (mLc (mIter (mVar 3)) (.nm 10) (mYes) (mF (mCallM 2 m__law_slips [] (mCons (mVar 10) (mCons (mVar 1) (mCons (mDictT0) (mNil)))))) [10]))) (mSeq (mSet 6 (mF (mLc (mZip (mCons (mVar 3) (mCons (mVar 5) (mNil)))) (.tp [.nm 10, .nm 11]) (mTest (mOp oEq (mVar 11) (mCall cMinL (mCons (mVar 5) (mNil))))) (mVar 10) [10, 11]))) (mSeq (mSet 7 (mCallT m_nearest [] (mCons (mVar 3) (mCons (mVar 1) (mNil))))) (mSeq (mIfS (mTest (mOp oNe (mCall cReprD (mCons (mT (mLst (mCons (mVar 7) (mCons (mF (mCallK m_nearest 0 2 [1, 0] mNil (mCons (mVar 1) (mCons (mVar 3) (mNil))))) (mNil))))) (mNil))) (mCall cReprD (mCons (mT (mOpN oMul (mF (mLst (mCons (mTup (mCons (mCall cMinL (mCons (mVar 5) (mNil))) (mCons (mVar 6) (mNil)))) (mNil)))) (mC (.int 2)))) (mNil))))) (mRet (mC (.bl false))) (mNext)) (mSeq (mDrop (mMethH "list" fAppend (mOp oIx (mVar 7) (mC (.int 1))) (mCons (mC .non) (mNil)))) (mSeq (mFor (mRng1 (mCons (mC (.int 4)) (mNil))) (.nm 8) l__law_right_0) (mRet (mOp oEq (mCallT m_nearest [] (mCons (mVar 3) (mCons (mOp oIx (mVar 3) (mUn uNeg (mC (.int 1)))) (mNil)))) (mTup (mCons (mC (.int 0)) (mCons (mF (mSl (mVar 3) (mPart (mUn uNeg (mC (.int 1)))) (mNoPart))) (mNil))))))))))))))
noncomputable abbrev m__law_right : List Val → M Val := mFn 4 12 b__law_right
noncomputable def l_law_0 : MS := mIfS (mNot (mTest (mF (mCallM 0 m__law_right [] (mCons (mVar 1) (mCons (mF (mCallM 0 m__law_string [] (mCons (mVar 1) (mCons (mC (.int 6)) (mNil))))) (mCons (mF (mCallM 0 m__law_string [] (mCons (mVar 1) (mCons (mC (.int 6)) (mNil))))) (mCons (mVar 2) (mNil))))))))) (mRet (mC (.bl false))) (mNext)
noncomputable def l_law_1 : MS := mSeq (mSet 2 (mF (mCallM 0 m__law_book [] (mCons (mVar 1) (mNil))))) (mFor (mRng1 (mCons (mC (.int 3)) (mNil))) (.nm 3) l_law_0)
noncomputable def l_law_2 : MS := mIfS (mNot (mTest (mF (mCallM 0 m__law_right [] (mCons (mVar 1) (mCons (mVar 4) (mCons (mVar 5) (mCons (mF (mLst (mCons (mC (.str "cat")) (mCons (mC (.str "cot")) (mCons (mC (.str "dog")) (mNil)))))) (mNil))))))))) (mRet (mC (.bl false))) (mNext)
noncomputable def b_law : MS := mSeq (mFor (mIterN (mLc (mIter (mF (mOpN oAdd (mF (mSl (mVar 0) (mNoPart) (mPart (mC (.int 3))))) (mF (mLst (mCons (mC (.int 0)) (mNil))))))) (.nm 6) (mYes) (mT (mCallP m__law_draws [] (mCons (mVar 6) (mNil)))) [6])) (.nm 1) l_law_1) (mSeq (mSet 1 (mT (mCallP m__law_draws [] (mCons (mC (.int 0)) (mNil))))) (mSeq (mFor (mIter (mF (mLst (mCons (mTup (mCons (mC (.str "ca")) (mCons (mC (.str "abc")) (mNil)))) (mCons (mTup (mCons (mC (.str "form")) (mCons (mC (.str "from")) (mNil)))) (mCons (mTup (mCons (mC (.str "")) (mCons (mC (.str "abc")) (mNil)))) (mCons (mTup (mCons (mC (.str "abab")) (mCons (mC (.str "baba")) (mNil)))) (mCons (mTup (mCons (mC (.str "aab")) (mCons (mC (.str "aba")) (mNil)))) (mNil))))))))) (.tp [.nm 4, .nm 5]) l_law_2) (mSeq (mIfS (mTest (mOp oNe (mF (mLst (mCons (mF (mCallP m_slips [] (mCons (mC (.str "ca")) (mCons (mC (.str "abc")) (mNil))))) (mCons (mF (mCallP m_slips [] (mCons (mC (.str "form")) (mCons (mC (.str "from")) (mNil))))) (mNil))))) (mF (mLst (mCons (mC (.int 3)) (mCons (mC (.int 1)) (mNil))))))) (mRet (mC (.bl false))) (mNext)) (mRet (mOp oEq (mCallT m_nearest [] (mCons (mF (mLst (mCons (mC (.str "cat")) (mCons (mC (.str "cot")) (mNil))))) (mCons (mC (.str "cet")) (mNil)))) (mTup (mCons (mC (.int 1)) (mCons (mF (mLst (mCons (mC (.str "cat")) (mCons (mC (.str "cot")) (mNil))))) (mNil)))))))))
noncomputable abbrev m_law : List Val → M Val := mFn 1 7 b_law
section
variable {w : World} {K : PySem.W.Frag} {mg : Str → Option Value} {base : Heap}
theorem sc__law_draws : FnScope ["_law_cell"] ["_law_cell"] (defScope (top 29)) := ⟨rfl, rfl, rfl, by decide +kernel, rfl, by decide +kernel, by decide +kernel⟩
theorem ok__law_draws {f : Addr} {fd : FuncData} (T : Tx mg) (CT : CTab K mg) (D : Df K mg "_law_draws" (top 29) ["_law_cell"] [] f fd) : FnG P w K mg base (L2.CX P w) 1 f fd ["_law_cell"] (spM ⟨K, ctOf mg⟩ m__law_draws 1) :=
  fn_ok D.F sc__law_draws rfl fun cdv A outer s H E W hr hG tk hp => by
    exact sss_one (ss_ret (se_T (sn_lst (sa_cons (se_mod (se_cint T.f_int (sa_cons (se_var (i := 0)) (sa_nil))) (se_pow (se_pow (se_pow (se_int) (se_int)) (se_int)) (se_int))) (sa_cons (se_int) (sa_cons (se_cp .ge hr (se_var (i := 0)) (se_pow (se_int) (se_int))) (sa_nil)))))))
theorem sc__law_next : FnScope ["_law_draws_here", "_law_k", "_law_drawn"] ["_law_draws_here"] (defScope (top 30)) := ⟨rfl, rfl, rfl, by decide +kernel, rfl, by decide +kernel, by decide +kernel⟩
theorem ok__law_next {f : Addr} {fd : FuncData} (T : Tx mg) (CT : CTab K mg) (D : Df K mg "_law_next" (top 30) ["_law_draws_here"] [] f fd) : FnG P w K mg base (L2.CX P w) 1 f fd ["_law_draws_here"] (spM ⟨K, ctOf mg⟩ m__law_next 1) :=
  fn_ok D.F sc__law_next rfl fun cdv A outer s H E W hr hG tk hp => by
    exact sss_cons (ss_sub (se_var (i := 0)) (se_int) (se_F (sn_add (se_ix (se_var (i := 0)) (se_int)) (se_int)))) (sss_cons (ss_set (i := 1) sc__law_next.nd (se_ix (se_var (i := 0)) (se_int))) (sss_cons (ss_if (st_val (se_ix (se_var (i := 0)) (se_int))) (sss_cons (ss_set (i := 2) sc__law_next.nd (se_mod (se_cint T.f_int (sa_cons (se_ix (se_var (i := 0)) (se_int)) (sa_nil))) (se_pow (se_int) (se_int)))) (sss_cons (ss_sub (se_var (i := 0)) (se_int) (se_div (se_ix (se_var (i := 0)) (se_int)) (se_pow (se_int) (se_int)))) (sss_one (ss_ret (se_var (i := 2)))))) (sss_nil)) (sss_cons (ss_set (i := 2) sc__law_next.nd (se_mod (se_cint T.f_int (sa_cons (se_F (sn_mul (se_F (sn_add (se_F (sn_add (se_mod (se_cint T.f_int (sa_cons (se_ix (se_var (i := 0)) (se_int)) (sa_nil))) (se_int)) (se_F (sn_mul (se_F (sn_mul (se_var (i := 1)) (se_var (i := 1)))) (se_int))))) (se_var (i := 1)))) (se_int))) (sa_nil))) (se_int))) (sss_cons (ss_set (i := 2) sc__law_next.nd (se_mod (se_cint T.f_int (sa_cons (se_F (sn_mul (se_var (i := 2)) (se_var (i := 2)))) (sa_nil))) (se_int))) (sss_one (ss_ret (se_div (se_mod (se_cint T.f_int (sa_cons (se_F (sn_mul (se_var (i := 2)) (se_F (sn_add (se_var (i := 2)) (se_int))))) (sa_nil))) (se_int)) (se_int))))))))
theorem sc__law_string : FnScope ["_law_draws_here", "_law_most_here", "_law_turn"] ["_law_draws_here", "_law_most_here"] (defScope (top 31)) := ⟨rfl, rfl, rfl, by decide +kernel, rfl, by decide +kernel, by decide +kernel⟩
theorem ok__law_string {f : Addr} {fd : FuncData} (T : Tx mg) (CT : CTab K mg) (D : Df K mg "_law_string" (top 31) ["_law_draws_here", "_law_most_here"] [] f fd) {f__law_next : Addr} {fd__law_next : FuncData} (D__law_next : Df K mg "_law_next" (top 30) ["_law_draws_here"] [] f__law_next fd__law_next) (G__law_next : FnG P w K mg base (L2.CX P w) 1 f__law_next fd__law_next ["_law_draws_here"] (spM ⟨K, ctOf mg⟩ m__law_next 1)) : FnG P w K mg base (L2.CX P w) 2 f fd ["_law_draws_here", "_law_most_here"] (spM ⟨K, ctOf mg⟩ m__law_string 2) :=
  fn_ok D.F sc__law_string rfl fun cdv A outer s H E W hr hG tk hp => by
    exact sss_one (ss_ret (se_join (se_str) (sa_cons (se_F (sn_lc (own := [("_law_turn", 2)]) rfl sc__law_string.nd (si_rng1 T.f_range (sa_cons (se_mod (se_cint T.f_int (sa_cons (se_F (sn_callM (dvs := []) (pp := 0) G__law_next tk (hr.mono (by decide)) hG D__law_next.gm D__law_next.F.kp D__law_next.b0 (fun _ _ => .nil) (sa_cons (se_var (i := 0)) (sa_nil)))) (sa_nil))) (se_F (sn_add (se_var (i := 1)) (se_int)))) (sa_nil))) (blkOk_by (by kernel_rfl)) (fun _ _ _ _ _ => sg_nm (i := 2) sc__law_string.nd) (fun _ _ _ _ _ => sts_nil) (fun _ _ _ _ _ => se_ix (se_str) (se_mod (se_cint T.f_int (sa_cons (se_F (sn_callM (dvs := []) (pp := 0) G__law_next takes0 (hr.mono (by decide)) hG D__law_next.gm D__law_next.F.kp D__law_next.b0 (fun _ _ => .nil) (sa_cons (se_var (i := 0)) (sa_nil)))) (sa_nil))) (se_int))))) (sa_nil))))
theorem sc__law_book : FnScope ["_law_draws_here", "_law_names", "_law_turn"] ["_law_draws_here"] (defScope (top 33)) := ⟨rfl, rfl, rfl, by decide +kernel, rfl, by decide +kernel, by decide +kernel⟩
theorem ok__law_book {f : Addr} {fd : FuncData} (T : Tx mg) (CT : CTab K mg) (D : Df K mg "_law_book" (top 33) ["_law_draws_here"] [] f fd) {f__law_next : Addr} {fd__law_next : FuncData} (D__law_next : Df K mg "_law_next" (top 30) ["_law_draws_here"] [] f__law_next fd__law_next) (G__law_next : FnG P w K mg base (L2.CX P w) 1 f__law_next fd__law_next ["_law_draws_here"] (spM ⟨K, ctOf mg⟩ m__law_next 1)) {f__law_string : Addr} {fd__law_string : FuncData} (D__law_string : Df K mg "_law_string" (top 31) ["_law_draws_here", "_law_most_here"] [] f__law_string fd__law_string) (G__law_string : FnG P w K mg base (L2.CX P w) 2 f__law_string fd__law_string ["_law_draws_here", "_law_most_here"] (spM ⟨K, ctOf mg⟩ m__law_string 2)) : FnG P w K mg base (L2.CX P w) 3 f fd ["_law_draws_here"] (spM ⟨K, ctOf mg⟩ m__law_book 1) :=
  fn_ok D.F sc__law_book rfl fun cdv A outer s H E W hr hG tk hp => by
    exact sss_cons (ss_setLc (f := mF) (i := 1) (own := [("_law_turn", 2)])  (fun z => mF_run z) rfl sc__law_book.nd (sw_true rfl rfl rfl (by decide +kernel)) (si_rng1 T.f_range (sa_cons (se_F (sn_add (se_int) (se_mod (se_cint T.f_int (sa_cons (se_F (sn_callM (dvs := []) (pp := 0) G__law_next tk (hr.mono (by decide)) hG D__law_next.gm D__law_next.F.kp D__law_next.b0 (fun _ _ => .nil) (sa_cons (se_var (i := 0)) (sa_nil)))) (sa_nil))) (se_int)))) (sa_nil))) (blkOk_by (by kernel_rfl)) (fun _ _ _ _ _ => sg_nm (i := 2) sc__law_book.nd) (fun _ _ _ _ _ => sts_nil) (fun _ _ _ _ _ => se_F (sn_add (se_F (sn_callM (dvs := []) (pp := 0) G__law_string takes0 (hr.mono (by decide)) hG D__law_string.gm D__law_string.F.kp D__law_string.b0 (fun _ _ => .nil) (sa_cons (se_var (i := 0)) (sa_cons (se_int) (sa_nil))))) (se_ix (se_str) (se_var (i := 2)))))) (sss_one (ss_ret (se_T (sn_sortSet rfl hr T.f_sorted T.f_set (sa_cons (se_var (i := 1)) (sa_nil))))))
theorem sc__law_slips : FnScope ["_law_one_here", "_law_other_here", "_law_known", "_law_told"] ["_law_one_here", "_law_other_here", "_law_known"] (defScope (top 32)) := ⟨rfl, rfl, rfl, by decide +kernel, rfl, by decide +kernel, by decide +kernel⟩
theorem eqs__law_slips (k : Nat) : mr__law_slips (k + 1) = mFn 3 4 (b__law_slips (bs__law_slips k)) := rfl
theorem okS__law_slips (k : Nat) {f : Addr} {fd : FuncData} (T : Tx mg) (CT : CTab K mg) (D : Df K mg "_law_slips" (top 32) ["_law_one_here", "_law_other_here", "_law_known"] [] f fd) (G__law_slips : FnG P w K mg base (L2.CX P w) (1 + k) f fd ["_law_one_here", "_law_other_here", "_law_known"] (spM ⟨K, ctOf mg⟩ (mr__law_slips k) 3)) : FnG P w K mg base (L2.CX P w) (1 + k + 1) f fd ["_law_one_here", "_law_other_here", "_law_known"] (spM ⟨K, ctOf mg⟩ (mr__law_slips (k + 1)) 3) :=
  (eqs__law_slips k).symm ▸ fn_ok (N := ["_law_one_here", "_law_other_here", "_law_known", "_law_told"]) (m := b__law_slips (bs__law_slips k)) D.F sc__law_slips rfl fun cdv A outer s H E W hr hG tk hp => by
    exact sss_cons (ss_if (PW.pt (sw_or (st_cp .eq hr (se_var (i := 0)) (se_str)) (sw_or1 (st_cp .eq hr (se_var (i := 1)) (se_str))))) (sss_one (ss_ret (se_T (sn_add (se_len T.f_len (sa_cons (se_var (i := 0)) (sa_nil))) (se_len T.f_len (sa_cons (se_var (i := 1)) (sa_nil))))))) (sss_nil)) (sss_cons (ss_if (st_notInT hr (sa_cons (se_var (i := 0)) (sa_cons (se_var (i := 1)) (sa_nil))) (se_var (i := 2))) (sss_cons (ss_set (i := 3) sc__law_slips.nd (se_F (sn_add (se_min2 rfl T.f_min (sa_cons (se_F (sn_callM (dvs := []) (pp := 2) G__law_slips tk (hr.mono (by omega)) hG D.gm D.F.kp D.b0 (fun _ _ => .nil) (sa_cons (se_F (sn_sl (se_var (i := 0)) (so_some (se_int)) (so_none))) (sa_cons (se_var (i := 1)) (sa_cons (se_var (i := 2)) (sa_nil)))))) (sa_cons (se_F (sn_callM (dvs := []) (pp := 2) G__law_slips tk (hr.mono (by omega)) hG D.gm D.F.kp D.b0 (fun _ _ => .nil) (sa_cons (se_var (i := 0)) (sa_cons (se_F (sn_sl (se_var (i := 1)) (so_some (se_int)) (so_none))) (sa_cons (se_var (i := 2)) (sa_nil)))))) (sa_nil)))) (se_int)))) (sss_cons (ss_set (i := 3) sc__law_slips.nd (se_min2 rfl T.f_min (sa_cons (se_var (i := 3)) (sa_cons (se_F (sn_add (se_F (sn_callM (dvs := []) (pp := 2) G__law_slips tk (hr.mono (by omega)) hG D.gm D.F.kp D.b0 (fun _ _ => .nil) (sa_cons (se_F (sn_sl (se_var (i := 0)) (so_some (se_int)) (so_none))) (sa_cons (se_F (sn_sl (se_var (i := 1)) (so_some (se_int)) (so_none))) (sa_cons (se_var (i := 2)) (sa_nil)))))) (se_cint T.f_int (sa_cons (se_cp .ne hr (se_ix (se_var (i := 0)) (se_int)) (se_ix (se_var (i := 1)) (se_int))) (sa_nil))))) (sa_nil))))) (sss_cons (ss_if (PW.pt (sw_and (st_cp .eq hr (se_F (sn_sl (se_var (i := 0)) (so_none) (so_some (se_int)))) (se_backS (se_F (sn_sl (se_var (i := 1)) (so_none) (so_some (se_int)))))) (sw_and (st_cp .gt hr (se_len T.f_len (sa_cons (se_var (i := 0)) (sa_nil))) (se_int)) (sw_and (st_cp .gt hr (se_len T.f_len (sa_cons (se_var (i := 1)) (sa_nil))) (se_int)) (sw_and1 (st_cp .ne hr (se_ix (se_var (i := 0)) (se_int)) (se_ix (se_var (i := 0)) (se_int)))))))) (sss_one (ss_set (i := 3) sc__law_slips.nd (se_min2 rfl T.f_min (sa_cons (se_var (i := 3)) (sa_cons (se_F (sn_add (se_F (sn_callM (dvs := []) (pp := 2) G__law_slips tk (hr.mono (by omega)) hG D.gm D.F.kp D.b0 (fun _ _ => .nil) (sa_cons (se_F (sn_sl (se_var (i := 0)) (so_some (se_int)) (so_none))) (sa_cons (se_F (sn_sl (se_var (i := 1)) (so_some (se_int)) (so_none))) (sa_cons (se_var (i := 2)) (sa_nil)))))) (se_int))) (sa_nil)))))) (sss_nil)) (sss_one (ss_setT hr (se_var (i := 2)) (sa_cons (se_var (i := 0)) (sa_cons (se_var (i := 1)) (sa_nil))) (se_var (i := 3))))))) (sss_nil)) (sss_one (ss_ret (se_getT hr (se_var (i := 2)) (sa_cons (se_var (i := 0)) (sa_cons (se_var (i := 1)) (sa_nil)))))))
theorem okR__law_slips (k : Nat) {f : Addr} {fd : FuncData} (T : Tx mg) (CT : CTab K mg) (D : Df K mg "_law_slips" (top 32) ["_law_one_here", "_law_other_here", "_law_known"] [] f fd) : FnG P w K mg base (L2.CX P w) (1 + k) f fd ["_law_one_here", "_law_other_here", "_law_known"] (spM ⟨K, ctOf mg⟩ (mr__law_slips k) 3) := by
  induction k with
  | zero => exact fn_ok (k := 0) (m := mNever) D.F sc__law_slips rfl fun cdv A outer s H E W hr hG tk hp => sss_never
  | succ k ih => exact okS__law_slips k T CT D ih
theorem ok__law_slips {f : Addr} {fd : FuncData} (T : Tx mg) (CT : CTab K mg) (D : Df K mg "_law_slips" (top 32) ["_law_one_here", "_law_other_here", "_law_known"] [] f fd) : FnG P w K mg base (L2.CX P w) 41 f fd ["_law_one_here", "_law_other_here", "_law_known"] (spM ⟨K, ctOf mg⟩ m__law_slips 3) := okR__law_slips 40 T CT D
theorem sc_are_letters : FnScope ["value", "least", "most", "sign"] ["value", "least", "most"] (defScope (top 12)) := ⟨rfl, rfl, rfl, by decide +kernel, rfl, by decide +kernel, by decide +kernel⟩
theorem ok_are_letters {f : Addr} {fd : FuncData} (T : Tx mg) (CT : CTab K mg) (D : Df K mg "are_letters" (top 12) ["value", "least", "most"] [] f fd) : FnG P w K mg base (L2.CX P w) 1 f fd ["value", "least", "most"] (spM ⟨K, ctOf mg⟩ m_are_letters 3) :=
  fn_ok D.F sc_are_letters rfl fun cdv A outer s H E W hr hG tk hp => by
    exact sss_cons (ss_if (PW.pt (sw_or (st_not (st_val (se_isi (T := "str") T.f_isinstance T.f_str (by decide +kernel) (se_var (i := 0))))) (sw_or1 (st_not (st_chain .le .le hr (se_var (i := 1)) (se_len T.f_len (sa_cons (se_var (i := 0)) (sa_nil))) (se_var (i := 2))))))) (sss_one (ss_ret (se_bl))) (sss_nil)) (sss_one (ss_ret (se_eqEmp hr (se_F (sn_lc (own := [("sign", 3)]) rfl sc_are_letters.nd (si_any (se_var (i := 0))) (blkOk_by (by kernel_rfl)) (fun _ _ _ _ _ => sg_nm (i := 3) sc_are_letters.nd) (fun _ _ _ _ _ => sts_one (st_cp .notIn hr (se_var (i := 3)) (se_gstr T.c_LETTERS))) (fun _ _ _ _ _ => se_var (i := 3)))) (se_F (sn_lst (sa_nil))))))
theorem sc_check_string : FnScope ["value"] ["value"] (defScope (top 17)) := ⟨rfl, rfl, rfl, by decide +kernel, rfl, by decide +kernel, by decide +kernel⟩
theorem ok_check_string {f : Addr} {fd : FuncData} (T : Tx mg) (CT : CTab K mg) (D : Df K mg "check_string" (top 17) ["value"] [] f fd) (X_InvalidText : Exk P w K mg base "InvalidText" "value" (He.ga K "InvalidText")) {f_are_letters : Addr} {fd_are_letters : FuncData} (D_are_letters : Df K mg "are_letters" (top 12) ["value", "least", "most"] [] f_are_letters fd_are_letters) (G_are_letters : FnG P w K mg base (L2.CX P w) 1 f_are_letters fd_are_letters ["value", "least", "most"] (spM ⟨K, ctOf mg⟩ m_are_letters 3)) : FnG P w K mg base (L2.CX P w) 3 f fd ["value"] (spM ⟨K, ctOf mg⟩ m_check_string 1) :=
  fn_ok D.F sc_check_string rfl fun cdv A outer s H E W hr hG tk hp => by
    exact sss_one (ss_if (st_not (st_val (se_F (sn_call (dvs := []) G_are_letters tk (hr.mono (by decide)) hG D_are_letters.gm D_are_letters.F.kp D_are_letters.b0 (fun _ _ => .nil) (sa_cons (se_var (i := 0)) (sa_cons (se_int) (sa_cons (se_gint T.c_LONGEST) (sa_nil)))))))) (sss_one (ss_raiseE (k := 0) X_InvalidText rfl tk (hr.mono (by decide)) (se_var (i := 0)))) (sss_nil))
theorem sc_begun : FnScope ["name"] ["name"] (defScope (top 21)) := ⟨rfl, rfl, rfl, by decide +kernel, rfl, by decide +kernel, by decide +kernel⟩
theorem ok_begun {f : Addr} {fd : FuncData} (T : Tx mg) (CT : CTab K mg) (D : Df K mg "begun" (top 21) ["name"] [] f fd) : FnG P w K mg base (L2.CX P w) 1 f fd ["name"] (spM ⟨K, ctOf mg⟩ m_begun 1) :=
  fn_ok D.F sc_begun rfl fun cdv A outer s H E W hr hG tk hp => by
    exact sss_one (ss_ret (se_tup (sa_cons (se_tup (sa_nil)) (sa_cons (se_trng1 rfl T.f_tuple T.f_range (se_F (sn_add (se_len T.f_len (sa_cons (se_var (i := 0)) (sa_nil))) (se_int)))) (sa_nil)))))
theorem sc_slipped : FnScope ["name", "rows", "last", "letter", "then", "at", "before", "now", "cost"] ["name", "rows", "last", "letter"] (defScope (top 20)) := ⟨rfl, rfl, rfl, by decide +kernel, rfl, by decide +kernel, by decide +kernel⟩
theorem ok_slipped {f : Addr} {fd : FuncData} (T : Tx mg) (CT : CTab K mg) (D : Df K mg "slipped" (top 20) ["name", "rows", "last", "letter"] [] f fd) : FnG P w K mg base (L2.CX P w) 1 f fd ["name", "rows", "last", "letter"] (spM ⟨K, ctOf mg⟩ m_slipped 4) :=
  fn_ok D.F sc_slipped rfl fun cdv A outer s H E W hr hG tk hp => by
    exact sss_cons (ss_asg (se_var (i := 1)) (sg_tp rfl (sgs_cons (sg_nm (i := 6) sc_slipped.nd) (sgs_cons (sg_nm (i := 7) sc_slipped.nd) (sgs_nil))))) (sss_cons (ss_set (i := 4) sc_slipped.nd (se_T (sn_lst (sa_cons (se_F (sn_add (se_ix (se_var (i := 7)) (se_int)) (se_int))) (sa_nil))))) (sss_cons (ss_for hp rfl (si_rng2 T.f_range (sa_cons (se_int) (sa_cons (se_F (sn_add (se_len T.f_len (sa_cons (se_var (i := 0)) (sa_nil))) (se_int))) (sa_nil)))) (sg_nm (i := 5) sc_slipped.nd) (sss_cons (ss_set (i := 8) sc_slipped.nd (se_min3 rfl T.f_min (sa_cons (se_F (sn_add (se_ix (se_var (i := 7)) (se_var (i := 5))) (se_int))) (sa_cons (se_F (sn_add (se_ix (se_var (i := 4)) (se_sub (se_var (i := 5)) (se_int))) (se_int))) (sa_cons (se_F (sn_add (se_ix (se_var (i := 7)) (se_sub (se_var (i := 5)) (se_int))) (se_cint T.f_int (sa_cons (se_cp .ne hr (se_ix (se_var (i := 0)) (se_sub (se_var (i := 5)) (se_int))) (se_var (i := 3))) (sa_nil))))) (sa_nil)))))) (sss_cons (ss_if (PW.pt (sw_and (st_cp .gt hr (se_var (i := 5)) (se_int)) (sw_and (st_cp .ne hr (se_var (i := 2)) (se_var (i := 3))) (sw_and (st_cp .eq hr (se_ix (se_var (i := 0)) (se_sub (se_var (i := 5)) (se_int))) (se_var (i := 3))) (sw_and1 (st_cp .eq hr (se_ix (se_var (i := 0)) (se_sub (se_var (i := 5)) (se_int))) (se_var (i := 2)))))))) (sss_one (ss_set (i := 8) sc_slipped.nd (se_min2 rfl T.f_min (sa_cons (se_var (i := 8)) (sa_cons (se_F (sn_add (se_ix (se_var (i := 6)) (se_sub (se_var (i := 5)) (se_int))) (se_int))) (sa_nil)))))) (sss_nil)) (sss_one (ss_expr (se_append (se_var (i := 4)) (sa_cons (se_var (i := 8)) (sa_nil)))))))) (sss_one (ss_ret (se_tup (sa_cons (se_var (i := 7)) (sa_cons (se_ctup T.f_tuple (sa_cons (se_var (i := 4)) (sa_nil))) (sa_nil))))))))
theorem sc_slips_in : FnScope ["name", "string", "letter", "rows", "last"] ["name", "string"] (defScope (top 22)) := ⟨rfl, rfl, rfl, by decide +kernel, rfl, by decide +kernel, by decide +kernel⟩
theorem ok_slips_in {f : Addr} {fd : FuncData} (T : Tx mg) (CT : CTab K mg) (D : Df K mg "slips_in" (top 22) ["name", "string"] [] f fd) {f_begun : Addr} {fd_begun : FuncData} (D_begun : Df K mg "begun" (top 21) ["name"] [] f_begun fd_begun) (G_begun : FnG P w K mg base (L2.CX P w) 1 f_begun fd_begun ["name"] (spM ⟨K, ctOf mg⟩ m_begun 1)) {f_slipped : Addr} {fd_slipped : FuncData} (D_slipped : Df K mg "slipped" (top 20) ["name", "rows", "last", "letter"] [] f_slipped fd_slipped) (G_slipped : FnG P w K mg base (L2.CX P w) 1 f_slipped fd_slipped ["name", "rows", "last", "letter"] (spM ⟨K, ctOf mg⟩ m_slipped 4)) : FnG P w K mg base (L2.CX P w) 2 f fd ["name", "string"] (spM ⟨K, ctOf mg⟩ m_slips_in 2) :=
  fn_ok D.F sc_slips_in rfl fun cdv A outer s H E W hr hG tk hp => by
    exact sss_cons (ss_par (i := 3) (j := 4) rfl sc_slips_in.nd (sa_cons (se_F (sn_call (dvs := []) G_begun tk (hr.mono (by decide)) hG D_begun.gm D_begun.F.kp D_begun.b0 (fun _ _ => .nil) (sa_cons (se_var (i := 0)) (sa_nil)))) (sa_cons (se_non) (sa_nil)))) (sss_cons (ss_for hp rfl (si_any (se_var (i := 1))) (sg_nm (i := 2) sc_slips_in.nd) (sss_one (ss_par (i := 3) (j := 4) rfl sc_slips_in.nd (sa_cons (se_F (sn_call (dvs := []) G_slipped tk (hr.mono (by decide)) hG D_slipped.gm D_slipped.F.kp D_slipped.b0 (fun _ _ => .nil) (sa_cons (se_var (i := 0)) (sa_cons (se_var (i := 3)) (sa_cons (se_var (i := 4)) (sa_cons (se_var (i := 2)) (sa_nil))))))) (sa_cons (se_var (i := 2)) (sa_nil)))))) (sss_one (ss_ret (se_ix (se_ix (se_var (i := 3)) (se_int)) (se_neg (se_int))))))
theorem sc_slips : FnScope ["one", "other"] ["one", "other"] (defScope (top 23)) := ⟨rfl, rfl, rfl, by decide +kernel, rfl, by decide +kernel, by decide +kernel⟩
theorem ok_slips {f : Addr} {fd : FuncData} (T : Tx mg) (CT : CTab K mg) (D : Df K mg "slips" (top 23) ["one", "other"] [] f fd) {f_check_string : Addr} {fd_check_string : FuncData} (D_check_string : Df K mg "check_string" (top 17) ["value"] [] f_check_string fd_check_string) (G_check_string : FnG P w K mg base (L2.CX P w) 3 f_check_string fd_check_string ["value"] (spM ⟨K, ctOf mg⟩ m_check_string 1)) {f_slips_in : Addr} {fd_slips_in : FuncData} (D_slips_in : Df K mg "slips_in" (top 22) ["name", "string"] [] f_slips_in fd_slips_in) (G_slips_in : FnG P w K mg base (L2.CX P w) 2 f_slips_in fd_slips_in ["name", "string"] (spM ⟨K, ctOf mg⟩ m_slips_in 2)) : FnG P w K mg base (L2.CX P w) 4 f fd ["one", "other"] (spM ⟨K, ctOf mg⟩ m_slips 2) :=
  fn_ok D.F sc_slips rfl fun cdv A outer s H E W hr hG tk hp => by
    exact sss_cons (ss_expr (se_F (sn_call (dvs := []) G_check_string tk (hr.mono (by decide)) hG D_check_string.gm D_check_string.F.kp D_check_string.b0 (fun _ _ => .nil) (sa_cons (se_var (i := 0)) (sa_nil))))) (sss_cons (ss_expr (se_F (sn_call (dvs := []) G_check_string tk (hr.mono (by decide)) hG D_check_string.gm D_check_string.F.kp D_check_string.b0 (fun _ _ => .nil) (sa_cons (se_var (i := 1)) (sa_nil))))) (sss_one (ss_ret (se_T (sn_call (dvs := []) G_slips_in tk (hr.mono (by decide)) hG D_slips_in.gm D_slips_in.F.kp D_slips_in.b0 (fun _ _ => .nil) (sa_cons (se_var (i := 0)) (sa_cons (se_var (i := 1)) (sa_nil))))))))
theorem sc_is_name : FnScope ["value", "letter"] ["value"] (defScope (top 10)) := ⟨rfl, rfl, rfl, by decide +kernel, rfl, by decide +kernel, by decide +kernel⟩
theorem ok_is_name {f : Addr} {fd : FuncData} (T : Tx mg) (CT : CTab K mg) (D : Df K mg "is_name" (top 10) ["value"] [] f fd) : FnG P w K mg base (L2.CX P w) 1 f fd ["value"] (spM ⟨K, ctOf mg⟩ m_is_name 1) :=
  fn_ok D.F sc_is_name rfl fun cdv A outer s H E W hr hG tk hp => by
    exact sss_cons (ss_if (PW.pt (sw_or (st_not (st_val (se_isi (T := "str") T.f_isinstance T.f_str (by decide +kernel) (se_var (i := 0))))) (sw_or1 (st_not (st_chain .le .le hr (se_int) (se_len T.f_len (sa_cons (se_var (i := 0)) (sa_nil))) (se_gint T.c_MOST_LETTERS)))))) (sss_one (ss_ret (se_bl))) (sss_nil)) (sss_one (ss_ret (se_eqEmp hr (se_F (sn_lc (own := [("letter", 1)]) rfl sc_is_name.nd (si_any (se_var (i := 0))) (blkOk_by (by kernel_rfl)) (fun _ _ _ _ _ => sg_nm (i := 1) sc_is_name.nd) (fun _ _ _ _ _ => sts_one (st_cp .notIn hr (se_var (i := 1)) (se_gstr T.c_LETTERS))) (fun _ _ _ _ _ => se_var (i := 1)))) (se_F (sn_lst (sa_nil))))))
theorem sc_check_book : FnScope ["book", "at", "name"] ["book"] (defScope (top 18)) := ⟨rfl, rfl, rfl, by decide +kernel, rfl, by decide +kernel, by decide +kernel⟩
theorem ok_check_book {f : Addr} {fd : FuncData} (T : Tx mg) (CT : CTab K mg) (D : Df K mg "check_book" (top 18) ["book"] [] f fd) (X_InvalidList : Exk P w K mg base "InvalidList" "value" (He.ga K "InvalidList")) (X_InvalidItem : Exk P w K mg base "InvalidItem" "value" (He.ga K "InvalidItem")) {f_is_name : Addr} {fd_is_name : FuncData} (D_is_name : Df K mg "is_name" (top 10) ["value"] [] f_is_name fd_is_name) (G_is_name : FnG P w K mg base (L2.CX P w) 1 f_is_name fd_is_name ["value"] (spM ⟨K, ctOf mg⟩ m_is_name 1)) : FnG P w K mg base (L2.CX P w) 3 f fd ["book"] (spM ⟨K, ctOf mg⟩ m_check_book 1) :=
  fn_ok D.F sc_check_book rfl fun cdv A outer s H E W hr hG tk hp => by
    exact sss_cons (ss_if (PW.pt (sw_or (st_not (st_val (se_isi (T := "list") T.f_isinstance T.f_list (by decide +kernel) (se_var (i := 0))))) (sw_or1 (st_not (st_chain .le .le hr (se_int) (se_len T.f_len (sa_cons (se_var (i := 0)) (sa_nil))) (se_gint T.c_MOST_NAMES)))))) (sss_one (ss_raiseE (k := 0) X_InvalidList rfl tk (hr.mono (by decide)) (se_var (i := 0)))) (sss_nil)) (sss_one (ss_for hp rfl (si_enum T.f_enumerate (sa_cons (se_var (i := 0)) (sa_nil))) (sg_tp rfl (sgs_cons (sg_nm (i := 1) sc_check_book.nd) (sgs_cons (sg_nm (i := 2) sc_check_book.nd) (sgs_nil)))) (sss_one (ss_if (PW.pt (sw_or (st_not (st_val (se_F (sn_call (dvs := []) G_is_name tk (hr.mono (by decide)) hG D_is_name.gm D_is_name.F.kp D_is_name.b0 (fun _ _ => .nil) (sa_cons (se_var (i := 2)) (sa_nil)))))) (sw_or1 (PW.pt (sw_and (st_cp .gt hr (se_var (i := 1)) (se_int)) (sw_and1 (st_cp .le hr (se_var (i := 2)) (se_ix (se_var (i := 0)) (se_sub (se_var (i := 1)) (se_int)))))))))) (sss_one (ss_raiseE (k := 0) X_InvalidItem rfl tk (hr.mono (by decide)) (se_var (i := 2)))) (sss_nil)))))
theorem sc_nearest_in : FnScope ["book", "string", "numbers", "name", "number"] ["book", "string"] (defScope (top 24)) := ⟨rfl, rfl, rfl, by decide +kernel, rfl, by decide +kernel, by decide +kernel⟩
theorem ok_nearest_in {f : Addr} {fd : FuncData} (T : Tx mg) (CT : CTab K mg) (D : Df K mg "nearest_in" (top 24) ["book", "string"] [] f fd) {f_slips_in : Addr} {fd_slips_in : FuncData} (D_slips_in : Df K mg "slips_in" (top 22) ["name", "string"] [] f_slips_in fd_slips_in) (G_slips_in : FnG P w K mg base (L2.CX P w) 2 f_slips_in fd_slips_in ["name", "string"] (spM ⟨K, ctOf mg⟩ m_slips_in 2)) : FnG P w K mg base (L2.CX P w) 3 f fd ["book", "string"] (spM ⟨K, ctOf mg⟩ m_nearest_in 2) :=
  fn_ok D.F sc_nearest_in rfl fun cdv A outer s H E W hr hG tk hp => by
    exact sss_cons (ss_set (i := 2) sc_nearest_in.nd (se_F (sn_lc (own := [("name", 3)]) rfl sc_nearest_in.nd (si_any (se_var (i := 0))) (blkOk_by (by kernel_rfl)) (fun _ _ _ _ _ => sg_nm (i := 3) sc_nearest_in.nd) (fun _ _ _ _ _ => sts_nil) (fun _ _ _ _ _ => se_F (sn_call (dvs := []) G_slips_in takes0 (hr.mono (by decide)) hG D_slips_in.gm D_slips_in.F.kp D_slips_in.b0 (fun _ _ => .nil) (sa_cons (se_var (i := 3)) (sa_cons (se_var (i := 1)) (sa_nil)))))))) (sss_one (ss_ret (se_tup (sa_cons (se_minL rfl T.f_min (sa_cons (se_var (i := 2)) (sa_nil))) (sa_cons (se_T (sn_lc (own := [("name", 3), ("number", 4)]) rfl sc_nearest_in.nd (si_zip T.f_zip (sa_cons (se_var (i := 0)) (sa_cons (se_var (i := 2)) (sa_nil)))) (blkOk_by (by kernel_rfl)) (fun _ _ _ _ _ => sg_tp rfl (sgs_cons (sg_nm (i := 3) sc_nearest_in.nd) (sgs_cons (sg_nm (i := 4) sc_nearest_in.nd) (sgs_nil)))) (fun _ _ _ _ _ => sts_one (st_cp .eq hr (se_var (i := 4)) (se_minL rfl T.f_min (sa_cons (se_var (i := 2)) (sa_nil))))) (fun _ _ _ _ _ => se_var (i := 3)))) (sa_nil))))))
theorem sc_nearest : FnScope ["book", "string"] ["book", "string"] (defScope (top 25)) := ⟨rfl, rfl, rfl, by decide +kernel, rfl, by decide +kernel, by decide +kernel⟩
theorem ok_nearest {f : Addr} {fd : FuncData} (T : Tx mg) (CT : CTab K mg) (D : Df K mg "nearest" (top 25) ["book", "string"] [] f fd) {f_check_book : Addr} {fd_check_book : FuncData} (D_check_book : Df K mg "check_book" (top 18) ["book"] [] f_check_book fd_check_book) (G_check_book : FnG P w K mg base (L2.CX P w) 3 f_check_book fd_check_book ["book"] (spM ⟨K, ctOf mg⟩ m_check_book 1)) {f_check_string : Addr} {fd_check_string : FuncData} (D_check_string : Df K mg "check_string" (top 17) ["value"] [] f_check_string fd_check_string) (G_check_string : FnG P w K mg base (L2.CX P w) 3 f_check_string fd_check_string ["value"] (spM ⟨K, ctOf mg⟩ m_check_string 1)) {f_nearest_in : Addr} {fd_nearest_in : FuncData} (D_nearest_in : Df K mg "nearest_in" (top 24) ["book", "string"] [] f_nearest_in fd_nearest_in) (G_nearest_in : FnG P w K mg base (L2.CX P w) 3 f_nearest_in fd_nearest_in ["book", "string"] (spM ⟨K, ctOf mg⟩ m_nearest_in 2)) : FnG P w K mg base (L2.CX P w) 4 f fd ["book", "string"] (spM ⟨K, ctOf mg⟩ m_nearest 2) :=
  fn_ok D.F sc_nearest rfl fun cdv A outer s H E W hr hG tk hp => by
    exact sss_cons (ss_expr (se_F (sn_call (dvs := []) G_check_book tk (hr.mono (by decide)) hG D_check_book.gm D_check_book.F.kp D_check_book.b0 (fun _ _ => .nil) (sa_cons (se_var (i := 0)) (sa_nil))))) (sss_cons (ss_expr (se_F (sn_call (dvs := []) G_check_string tk (hr.mono (by decide)) hG D_check_string.gm D_check_string.F.kp D_check_string.b0 (fun _ _ => .nil) (sa_cons (se_var (i := 1)) (sa_nil))))) (sss_one (ss_ret (se_callT (dvs := []) G_nearest_in tk (hr.mono (by decide)) hG D_nearest_in.gm D_nearest_in.F.kp D_nearest_in.b0 (fun _ _ => .nil) (sa_cons (se_var (i := 0)) (sa_cons (se_var (i := 1)) (sa_nil)))))))
theorem sc_is_whole : FnScope ["value"] ["value"] (defScope (top 9)) := ⟨rfl, rfl, rfl, by decide +kernel, rfl, by decide +kernel, by decide +kernel⟩
theorem ok_is_whole {f : Addr} {fd : FuncData} (T : Tx mg) (CT : CTab K mg) (D : Df K mg "is_whole" (top 9) ["value"] [] f fd) : FnG P w K mg base (L2.CX P w) 1 f fd ["value"] (spM ⟨K, ctOf mg⟩ m_is_whole 1) :=
  fn_ok D.F sc_is_whole rfl fun cdv A outer s H E W hr hG tk hp => by
    exact sss_one (ss_ret (se_and (se_isi (T := "int") T.f_isinstance T.f_int (by decide +kernel) (se_var (i := 0))) (se_one (se_not (se_isi (T := "bool") T.f_isinstance T.f_bool (by decide +kernel) (se_var (i := 0)))))))
theorem sc_check_most : FnScope ["most"] ["most"] (defScope (top 19)) := ⟨rfl, rfl, rfl, by decide +kernel, rfl, by decide +kernel, by decide +kernel⟩
theorem ok_check_most {f : Addr} {fd : FuncData} (T : Tx mg) (CT : CTab K mg) (D : Df K mg "check_most" (top 19) ["most"] [] f fd) (X_InvalidNumber : Exk P w K mg base "InvalidNumber" "value" (He.ga K "InvalidNumber")) {f_is_whole : Addr} {fd_is_whole : FuncData} (D_is_whole : Df K mg "is_whole" (top 9) ["value"] [] f_is_whole fd_is_whole) (G_is_whole : FnG P w K mg base (L2.CX P w) 1 f_is_whole fd_is_whole ["value"] (spM ⟨K, ctOf mg⟩ m_is_whole 1)) : FnG P w K mg base (L2.CX P w) 3 f fd ["most"] (spM ⟨K, ctOf mg⟩ m_check_most 1) :=
  fn_ok D.F sc_check_most rfl fun cdv A outer s H E W hr hG tk hp => by
    exact sss_one (ss_if (PW.pt (sw_or (st_not (st_val (se_F (sn_call (dvs := []) G_is_whole tk (hr.mono (by decide)) hG D_is_whole.gm D_is_whole.F.kp D_is_whole.b0 (fun _ _ => .nil) (sa_cons (se_var (i := 0)) (sa_nil)))))) (sw_or1 (st_not (st_chain .le .le hr (se_int) (se_var (i := 0)) (se_gint T.c_MOST_SLIPS)))))) (sss_one (ss_raiseE (k := 0) X_InvalidNumber rfl tk (hr.mono (by decide)) (se_var (i := 0)))) (sss_nil))
theorem sc_mended_in : FnScope ["book", "string", "most", "number", "some"] ["book", "string", "most"] (defScope (top 26)) := ⟨rfl, rfl, rfl, by decide +kernel, rfl, by decide +kernel, by decide +kernel⟩
theorem ok_mended_in {f : Addr} {fd : FuncData} (T : Tx mg) (CT : CTab K mg) (D : Df K mg "mended_in" (top 26) ["book", "string", "most"] [] f fd) {f_nearest_in : Addr} {fd_nearest_in : FuncData} (D_nearest_in : Df K mg "nearest_in" (top 24) ["book", "string"] [] f_nearest_in fd_nearest_in) (G_nearest_in : FnG P w K mg base (L2.CX P w) 3 f_nearest_in fd_nearest_in ["book", "string"] (spM ⟨K, ctOf mg⟩ m_nearest_in 2)) : FnG P w K mg base (L2.CX P w) 4 f fd ["book", "string", "most"] (spM ⟨K, ctOf mg⟩ m_mended_in 3) :=
  fn_ok D.F sc_mended_in rfl fun cdv A outer s H E W hr hG tk hp => by
    exact sss_cons (ss_asg (se_callT (dvs := []) G_nearest_in tk (hr.mono (by decide)) hG D_nearest_in.gm D_nearest_in.F.kp D_nearest_in.b0 (fun _ _ => .nil) (sa_cons (se_var (i := 0)) (sa_cons (se_var (i := 1)) (sa_nil)))) (sg_tp rfl (sgs_cons (sg_nm (i := 3) sc_mended_in.nd) (sgs_cons (sg_nm (i := 4) sc_mended_in.nd) (sgs_nil))))) (sss_one (ss_ret (se_if (st_cp .le hr (se_var (i := 3)) (se_var (i := 2))) (se_ix (se_var (i := 4)) (se_int)) (se_non))))
theorem sc_mended : FnScope ["book", "string", "most"] ["book", "string", "most"] (defScope (top 27)) := ⟨rfl, rfl, rfl, by decide +kernel, rfl, by decide +kernel, by decide +kernel⟩
theorem ok_mended {f : Addr} {fd : FuncData} (T : Tx mg) (CT : CTab K mg) (D : Df K mg "mended" (top 27) ["book", "string", "most"] [] f fd) {f_check_book : Addr} {fd_check_book : FuncData} (D_check_book : Df K mg "check_book" (top 18) ["book"] [] f_check_book fd_check_book) (G_check_book : FnG P w K mg base (L2.CX P w) 3 f_check_book fd_check_book ["book"] (spM ⟨K, ctOf mg⟩ m_check_book 1)) {f_check_string : Addr} {fd_check_string : FuncData} (D_check_string : Df K mg "check_string" (top 17) ["value"] [] f_check_string fd_check_string) (G_check_string : FnG P w K mg base (L2.CX P w) 3 f_check_string fd_check_string ["value"] (spM ⟨K, ctOf mg⟩ m_check_string 1)) {f_check_most : Addr} {fd_check_most : FuncData} (D_check_most : Df K mg "check_most" (top 19) ["most"] [] f_check_most fd_check_most) (G_check_most : FnG P w K mg base (L2.CX P w) 3 f_check_most fd_check_most ["most"] (spM ⟨K, ctOf mg⟩ m_check_most 1)) {f_mended_in : Addr} {fd_mended_in : FuncData} (D_mended_in : Df K mg "mended_in" (top 26) ["book", "string", "most"] [] f_mended_in fd_mended_in) (G_mended_in : FnG P w K mg base (L2.CX P w) 4 f_mended_in fd_mended_in ["book", "string", "most"] (spM ⟨K, ctOf mg⟩ m_mended_in 3)) : FnG P w K mg base (L2.CX P w) 5 f fd ["book", "string", "most"] (spM ⟨K, ctOf mg⟩ m_mended 3) :=
  fn_ok D.F sc_mended rfl fun cdv A outer s H E W hr hG tk hp => by
    exact sss_cons (ss_expr (se_F (sn_call (dvs := []) G_check_book tk (hr.mono (by decide)) hG D_check_book.gm D_check_book.F.kp D_check_book.b0 (fun _ _ => .nil) (sa_cons (se_var (i := 0)) (sa_nil))))) (sss_cons (ss_expr (se_F (sn_call (dvs := []) G_check_string tk (hr.mono (by decide)) hG D_check_string.gm D_check_string.F.kp D_check_string.b0 (fun _ _ => .nil) (sa_cons (se_var (i := 1)) (sa_nil))))) (sss_cons (ss_expr (se_F (sn_call (dvs := []) G_check_most tk (hr.mono (by decide)) hG D_check_most.gm D_check_most.F.kp D_check_most.b0 (fun _ _ => .nil) (sa_cons (se_var (i := 2)) (sa_nil))))) (sss_one (ss_ret (se_T (sn_call (dvs := []) G_mended_in tk (hr.mono (by decide)) hG D_mended_in.gm D_mended_in.F.kp D_mended_in.b0 (fun _ _ => .nil) (sa_cons (se_var (i := 0)) (sa_cons (se_var (i := 1)) (sa_cons (se_var (i := 2)) (sa_nil))))))))))
theorem sc__law_right : FnScope ["_law_draws_here", "_law_one_here", "_law_other_here", "_law_book_here", "_law_due", "_law_numbers", "_law_some", "_law_told", "_law_most_here", "_law_wanted", "_law_name", "_law_number"] ["_law_draws_here", "_law_one_here", "_law_other_here", "_law_book_here"] (defScope (top 34)) := ⟨rfl, rfl, rfl, by decide +kernel, rfl, by decide +kernel, by decide +kernel⟩
theorem ok__law_right {f : Addr} {fd : FuncData} (T : Tx mg) (CT : CTab K mg) (D : Df K mg "_law_right" (top 34) ["_law_draws_here", "_law_one_here", "_law_other_here", "_law_book_here"] [] f fd) {f__law_slips : Addr} {fd__law_slips : FuncData} (D__law_slips : Df K mg "_law_slips" (top 32) ["_law_one_here", "_law_other_here", "_law_known"] [] f__law_slips fd__law_slips) (G__law_slips : FnG P w K mg base (L2.CX P w) 41 f__law_slips fd__law_slips ["_law_one_here", "_law_other_here", "_law_known"] (spM ⟨K, ctOf mg⟩ m__law_slips 3)) {f_slips : Addr} {fd_slips : FuncData} (D_slips : Df K mg "slips" (top 23) ["one", "other"] [] f_slips fd_slips) (G_slips : FnG P w K mg base (L2.CX P w) 4 f_slips fd_slips ["one", "other"] (spM ⟨K, ctOf mg⟩ m_slips 2)) {f_nearest : Addr} {fd_nearest : FuncData} (D_nearest : Df K mg "nearest" (top 25) ["book", "string"] [] f_nearest fd_nearest) (G_nearest : FnG P w K mg base (L2.CX P w) 4 f_nearest fd_nearest ["book", "string"] (spM ⟨K, ctOf mg⟩ m_nearest 2)) {f_mended : Addr} {fd_mended : FuncData} (D_mended : Df K mg "mended" (top 27) ["book", "string", "most"] [] f_mended fd_mended) (G_mended : FnG P w K mg base (L2.CX P w) 5 f_mended fd_mended ["book", "string", "most"] (spM ⟨K, ctOf mg⟩ m_mended 3)) : FnG P w K mg base (L2.CX P w) 42 f fd ["_law_draws_here", "_law_one_here", "_law_other_here", "_law_book_here"] (spM ⟨K, ctOf mg⟩ m__law_right 4) :=
  fn_ok D.F sc__law_right rfl fun cdv A outer s H E W hr hG tk hp => by
    exact sss_cons (ss_set (i := 4) sc__law_right.nd (se_F (sn_callM (dvs := []) (pp := 2) G__law_slips tk (hr.mono (by decide)) hG D__law_slips.gm D__law_slips.F.kp D__law_slips.b0 (fun _ _ => .nil) (sa_cons (se_var (i := 1)) (sa_cons (se_var (i := 2)) (sa_cons (se_dictT0) (sa_nil))))))) (sss_cons (ss_if (st_cp .ne hr (se_reprD CT.sys hr hG T.f_repr (sa_cons (se_T (sn_lst (sa_cons (se_F (sn_call (dvs := []) G_slips tk (hr.mono (by decide)) hG D_slips.gm D_slips.F.kp D_slips.b0 (fun _ _ => .nil) (sa_cons (se_var (i := 1)) (sa_cons (se_var (i := 2)) (sa_nil))))) (sa_cons (se_F (sn_callk0 G_slips tk (hr.mono (by decide)) hG D_slips.gm D_slips.F.kp (D_slips.kw (nn := 0) (ks := ["other", "one"]) (ord := [1, 0]) fun _ _ _ _ _ _ us ws h1 h2 => match us, ws, h1, h2 with | [], [_, _], _, _ => rfl) (sk_cons (se_var (i := 1)) (sk_cons (se_var (i := 2)) (sk_nil))))) (sa_cons (se_F (sn_call (dvs := []) G_slips tk (hr.mono (by decide)) hG D_slips.gm D_slips.F.kp D_slips.b0 (fun _ _ => .nil) (sa_cons (se_backS (se_var (i := 1))) (sa_cons (se_backS (se_var (i := 2))) (sa_nil))))) (sa_nil)))))) (sa_nil))) (se_reprD CT.sys hr hG T.f_repr (sa_cons (se_T (sn_mul (se_F (sn_lst (sa_cons (se_var (i := 4)) (sa_nil)))) (se_int))) (sa_nil)))) (sss_one (ss_ret (se_bl))) (sss_nil)) (sss_cons (ss_if (PW.pt (sw_or (st_cp .ne hr (se_cp .eq hr (se_var (i := 4)) (se_int)) (se_cp .eq hr (se_var (i := 1)) (se_var (i := 2)))) (sw_or1 (st_not (st_chain .le .le hr (se_abs T.f_abs (sa_cons (se_sub (se_len T.f_len (sa_cons (se_var (i := 1)) (sa_nil))) (se_len T.f_len (sa_cons (se_var (i := 2)) (sa_nil)))) (sa_nil))) (se_var (i := 4)) (se_max2 rfl T.f_max (sa_cons (se_len T.f_len (sa_cons (se_var (i := 1)) (sa_nil))) (sa_cons (se_len T.f_len (sa_cons (se_var (i := 2)) (sa_nil))) (sa_nil))))))))) (sss_one (ss_ret (se_bl))) (sss_nil)) (sss_cons (ss_set (i := 5) sc__law_right.nd (se_F (sn_lc (own := [("_law_name", 10)]) rfl sc__law_right.nd (si_any (se_var (i := 3))) (blkOk_by (by kernel_rfl)) (fun _ _ _ _ _ => sg_nm (i := 10) sc__law_right.nd) (fun _ _ _ _ _ => sts_nil) (fun _ _ _ _ _ => se_F (sn_callM (dvs := []) (pp := 2) G__law_slips takes0 (hr.mono (by decide)) hG D__law_slips.gm D__law_slips.F.kp D__law_slips.b0 (fun _ _ => .nil) (sa_cons (se_var (i := 10)) (sa_cons (se_var (i := 1)) (sa_cons (se_dictT0) (sa_nil))))))))) (sss_cons (ss_setLc (f := mF) (i := 6) (own := [("_law_name", 10), ("_law_number", 11)])  (fun z => mF_run z) rfl sc__law_right.nd (sw_true rfl rfl rfl (by decide +kernel)) (si_zip T.f_zip (sa_cons (se_var (i := 3)) (sa_cons (se_var (i := 5)) (sa_nil)))) (blkOk_by (by kernel_rfl)) (fun _ _ _ _ _ => sg_tp rfl (sgs_cons (sg_nm (i := 10) sc__law_right.nd) (sgs_cons (sg_nm (i := 11) sc__law_right.nd) (sgs_nil)))) (fun _ _ _ _ _ => sts_one (st_cp .eq hr (se_var (i := 11)) (se_minL rfl T.f_min (sa_cons (se_var (i := 5)) (sa_nil))))) (fun _ _ _ _ _ => se_var (i := 10))) (sss_cons (ss_set (i := 7) sc__law_right.nd (se_callT (dvs := []) G_nearest tk (hr.mono (by decide)) hG D_nearest.gm D_nearest.F.kp D_nearest.b0 (fun _ _ => .nil) (sa_cons (se_var (i := 3)) (sa_cons (se_var (i := 1)) (sa_nil))))) (sss_cons (ss_if (st_cp .ne hr (se_reprD CT.sys hr hG T.f_repr (sa_cons (se_T (sn_lst (sa_cons (se_var (i := 7)) (sa_cons (se_F (sn_callk0 G_nearest tk (hr.mono (by decide)) hG D_nearest.gm D_nearest.F.kp (D_nearest.kw (nn := 0) (ks := ["string", "book"]) (ord := [1, 0]) fun _ _ _ _ _ _ us ws h1 h2 => match us, ws, h1, h2 with | [], [_, _], _, _ => rfl) (sk_cons (se_var (i := 1)) (sk_cons (se_var (i := 3)) (sk_nil))))) (sa_nil))))) (sa_nil))) (se_reprD CT.sys hr hG T.f_repr (sa_cons (se_T (sn_mul (se_F (sn_lst (sa_cons (se_tup (sa_cons (se_minL rfl T.f_min (sa_cons (se_var (i := 5)) (sa_nil))) (sa_cons (se_var (i := 6)) (sa_nil)))) (sa_nil)))) (se_int))) (sa_nil)))) (sss_one (ss_ret (se_bl))) (sss_nil)) (sss_cons (ss_expr (se_append (se_ix (se_var (i := 7)) (se_int)) (sa_cons (se_non) (sa_nil)))) (sss_cons (ss_for hp rfl (si_rng1 T.f_range (sa_cons (se_int) (sa_nil))) (sg_nm (i := 8) sc__law_right.nd) (sss_cons (ss_set (i := 9) sc__law_right.nd (se_if (st_cp .le hr (se_minL rfl T.f_min (sa_cons (se_var (i := 5)) (sa_nil))) (se_var (i := 8))) (se_ix (se_var (i := 6)) (se_int)) (se_non))) (sss_one (ss_if (st_cp .ne hr (se_reprD CT.sys hr hG T.f_repr (sa_cons (se_T (sn_lst (sa_cons (se_F (sn_call (dvs := []) G_mended tk (hr.mono (by decide)) hG D_mended.gm D_mended.F.kp D_mended.b0 (fun _ _ => .nil) (sa_cons (se_var (i := 3)) (sa_cons (se_var (i := 1)) (sa_cons (se_var (i := 8)) (sa_nil)))))) (sa_cons (se_F (sn_callk0 G_mended tk (hr.mono (by decide)) hG D_mended.gm D_mended.F.kp (D_mended.kw (nn := 0) (ks := ["most", "string", "book"]) (ord := [2, 1, 0]) fun _ _ _ _ _ _ us ws h1 h2 => match us, ws, h1, h2 with | [], [_, _, _], _, _ => rfl) (sk_cons (se_var (i := 8)) (sk_cons (se_var (i := 1)) (sk_cons (se_var (i := 3)) (sk_nil)))))) (sa_nil))))) (sa_nil))) (se_reprD CT.sys hr hG T.f_repr (sa_cons (se_T (sn_lst (sa_cons (se_var (i := 9)) (sa_cons (se_var (i := 9)) (sa_nil))))) (sa_nil)))) (sss_one (ss_ret (se_bl))) (sss_nil))))) (sss_one (ss_ret (se_cp .eq hr (se_callT (dvs := []) G_nearest tk (hr.mono (by decide)) hG D_nearest.gm D_nearest.F.kp D_nearest.b0 (fun _ _ => .nil) (sa_cons (se_var (i := 3)) (sa_cons (se_ix (se_var (i := 3)) (se_neg (se_int))) (sa_nil)))) (se_tup (sa_cons (se_int) (sa_cons (se_F (sn_sl (se_var (i := 3)) (so_some (se_neg (se_int))) (so_none))) (sa_nil)))))))))))))))
theorem sc_law : FnScope ["_law_script", "_law_draws_here", "_law_book_here", "_law_turn", "_law_one_here", "_law_other_here", "_law_cell"] ["_law_script"] (defScope (top 35)) := ⟨rfl, rfl, rfl, by decide +kernel, rfl, by decide +kernel, by decide +kernel⟩
theorem ok_law {f : Addr} {fd : FuncData} (T : Tx mg) (CT : CTab K mg) (D : Df K mg "law" (top 35) ["_law_script"] [] f fd) {f__law_draws : Addr} {fd__law_draws : FuncData} (D__law_draws : Df K mg "_law_draws" (top 29) ["_law_cell"] [] f__law_draws fd__law_draws) (G__law_draws : FnG P w K mg base (L2.CX P w) 1 f__law_draws fd__law_draws ["_law_cell"] (spM ⟨K, ctOf mg⟩ m__law_draws 1)) {f__law_book : Addr} {fd__law_book : FuncData} (D__law_book : Df K mg "_law_book" (top 33) ["_law_draws_here"] [] f__law_book fd__law_book) (G__law_book : FnG P w K mg base (L2.CX P w) 3 f__law_book fd__law_book ["_law_draws_here"] (spM ⟨K, ctOf mg⟩ m__law_book 1)) {f__law_right : Addr} {fd__law_right : FuncData} (D__law_right : Df K mg "_law_right" (top 34) ["_law_draws_here", "_law_one_here", "_law_other_here", "_law_book_here"] [] f__law_right fd__law_right) (G__law_right : FnG P w K mg base (L2.CX P w) 42 f__law_right fd__law_right ["_law_draws_here", "_law_one_here", "_law_other_here", "_law_book_here"] (spM ⟨K, ctOf mg⟩ m__law_right 4)) {f__law_string : Addr} {fd__law_string : FuncData} (D__law_string : Df K mg "_law_string" (top 31) ["_law_draws_here", "_law_most_here"] [] f__law_string fd__law_string) (G__law_string : FnG P w K mg base (L2.CX P w) 2 f__law_string fd__law_string ["_law_draws_here", "_law_most_here"] (spM ⟨K, ctOf mg⟩ m__law_string 2)) {f_slips : Addr} {fd_slips : FuncData} (D_slips : Df K mg "slips" (top 23) ["one", "other"] [] f_slips fd_slips) (G_slips : FnG P w K mg base (L2.CX P w) 4 f_slips fd_slips ["one", "other"] (spM ⟨K, ctOf mg⟩ m_slips 2)) {f_nearest : Addr} {fd_nearest : FuncData} (D_nearest : Df K mg "nearest" (top 25) ["book", "string"] [] f_nearest fd_nearest) (G_nearest : FnG P w K mg base (L2.CX P w) 4 f_nearest fd_nearest ["book", "string"] (spM ⟨K, ctOf mg⟩ m_nearest 2)) : FnG P w K mg base (L2.CX P w) 43 f fd ["_law_script"] (spM ⟨K, ctOf mg⟩ m_law 1) :=
  fn_ok D.F sc_law rfl fun cdv A outer s H E W hr hG tk hp => by
    exact sss_cons (ss_for hp rfl (si_new (sn_lc (own := [("_law_cell", 6)]) rfl sc_law.nd (si_any (se_F (sn_add (se_F (sn_sl (se_var (i := 0)) (so_none) (so_some (se_int)))) (se_F (sn_lst (sa_cons (se_int) (sa_nil))))))) (blkOk_by (by kernel_rfl)) (fun _ _ _ _ _ => sg_nm (i := 6) sc_law.nd) (fun _ _ _ _ _ => sts_nil) (fun _ _ _ _ _ => se_T (sn_call (dvs := []) G__law_draws takes0 (hr.mono (by decide)) hG D__law_draws.gm D__law_draws.F.kp D__law_draws.b0 (fun _ _ => .nil) (sa_cons (se_var (i := 6)) (sa_nil)))))) (sg_nm (i := 1) sc_law.nd) (sss_cons (ss_set (i := 2) sc_law.nd (se_F (sn_callM (dvs := []) (pp := 0) G__law_book tk (hr.mono (by decide)) hG D__law_book.gm D__law_book.F.kp D__law_book.b0 (fun _ _ => .nil) (sa_cons (se_var (i := 1)) (sa_nil))))) (sss_one (ss_for hp rfl (si_rng1 T.f_range (sa_cons (se_int) (sa_nil))) (sg_nm (i := 3) sc_law.nd) (sss_one (ss_if (st_not (st_val (se_F (sn_callM (dvs := []) (pp := 0) G__law_right tk (hr.mono (by decide)) hG D__law_right.gm D__law_right.F.kp D__law_right.b0 (fun _ _ => .nil) (sa_cons (se_var (i := 1)) (sa_cons (se_F (sn_callM (dvs := []) (pp := 0) G__law_string tk (hr.mono (by decide)) hG D__law_string.gm D__law_string.F.kp D__law_string.b0 (fun _ _ => .nil) (sa_cons (se_var (i := 1)) (sa_cons (se_int) (sa_nil))))) (sa_cons (se_F (sn_callM (dvs := []) (pp := 0) G__law_string tk (hr.mono (by decide)) hG D__law_string.gm D__law_string.F.kp D__law_string.b0 (fun _ _ => .nil) (sa_cons (se_var (i := 1)) (sa_cons (se_int) (sa_nil))))) (sa_cons (se_var (i := 2)) (sa_nil))))))))) (sss_one (ss_ret (se_bl))) (sss_nil))))))) (sss_cons (ss_set (i := 1) sc_law.nd (se_T (sn_call (dvs := []) G__law_draws tk (hr.mono (by decide)) hG D__law_draws.gm D__law_draws.F.kp D__law_draws.b0 (fun _ _ => .nil) (sa_cons (se_int) (sa_nil))))) (sss_cons (ss_for hp rfl (si_any (se_F (sn_lst (sa_cons (se_tup (sa_cons (se_str) (sa_cons (se_str) (sa_nil)))) (sa_cons (se_tup (sa_cons (se_str) (sa_cons (se_str) (sa_nil)))) (sa_cons (se_tup (sa_cons (se_str) (sa_cons (se_str) (sa_nil)))) (sa_cons (se_tup (sa_cons (se_str) (sa_cons (se_str) (sa_nil)))) (sa_cons (se_tup (sa_cons (se_str) (sa_cons (se_str) (sa_nil)))) (sa_nil))))))))) (sg_tp rfl (sgs_cons (sg_nm (i := 4) sc_law.nd) (sgs_cons (sg_nm (i := 5) sc_law.nd) (sgs_nil)))) (sss_one (ss_if (st_not (st_val (se_F (sn_callM (dvs := []) (pp := 0) G__law_right tk (hr.mono (by decide)) hG D__law_right.gm D__law_right.F.kp D__law_right.b0 (fun _ _ => .nil) (sa_cons (se_var (i := 1)) (sa_cons (se_var (i := 4)) (sa_cons (se_var (i := 5)) (sa_cons (se_F (sn_lst (sa_cons (se_str) (sa_cons (se_str) (sa_cons (se_str) (sa_nil)))))) (sa_nil))))))))) (sss_one (ss_ret (se_bl))) (sss_nil)))) (sss_cons (ss_if (st_cp .ne hr (se_F (sn_lst (sa_cons (se_F (sn_call (dvs := []) G_slips tk (hr.mono (by decide)) hG D_slips.gm D_slips.F.kp D_slips.b0 (fun _ _ => .nil) (sa_cons (se_str) (sa_cons (se_str) (sa_nil))))) (sa_cons (se_F (sn_call (dvs := []) G_slips tk (hr.mono (by decide)) hG D_slips.gm D_slips.F.kp D_slips.b0 (fun _ _ => .nil) (sa_cons (se_str) (sa_cons (se_str) (sa_nil))))) (sa_nil))))) (se_F (sn_lst (sa_cons (se_int) (sa_cons (se_int) (sa_nil)))))) (sss_one (ss_ret (se_bl))) (sss_nil)) (sss_one (ss_ret (se_cp .eq hr (se_callT (dvs := []) G_nearest tk (hr.mono (by decide)) hG D_nearest.gm D_nearest.F.kp D_nearest.b0 (fun _ _ => .nil) (sa_cons (se_F (sn_lst (sa_cons (se_str) (sa_cons (se_str) (sa_nil))))) (sa_cons (se_str) (sa_nil)))) (se_tup (sa_cons (se_int) (sa_cons (se_F (sn_lst (sa_cons (se_str) (sa_cons (se_str) (sa_nil))))) (sa_nil))))))))))
end
def d__law_draws : He.DefD := ⟨("_law_draws", none), "_law_draws", "_law_draws", defArgs (top 29), defBody (top 29), defScope (top 29), [], []⟩
def d__law_next : He.DefD := ⟨("_law_next", none), "_law_next", "_law_next", defArgs (top 30), defBody (top 30), defScope (top 30), [], []⟩
def d__law_string : He.DefD := ⟨("_law_string", none), "_law_string", "_law_string", defArgs (top 31), defBody (top 31), defScope (top 31), [], []⟩
def d__law_book : He.DefD := ⟨("_law_book", none), "_law_book", "_law_book", defArgs (top 33), defBody (top 33), defScope (top 33), [], []⟩
def d__law_slips : He.DefD := ⟨("_law_slips", none), "_law_slips", "_law_slips", defArgs (top 32), defBody (top 32), defScope (top 32), [], []⟩
def d_are_letters : He.DefD := ⟨("are_letters", none), "are_letters", "are_letters", defArgs (top 12), defBody (top 12), defScope (top 12), [], []⟩
def d_check_string : He.DefD := ⟨("check_string", none), "check_string", "check_string", defArgs (top 17), defBody (top 17), defScope (top 17), [], []⟩
def d_begun : He.DefD := ⟨("begun", none), "begun", "begun", defArgs (top 21), defBody (top 21), defScope (top 21), [], []⟩
def d_slipped : He.DefD := ⟨("slipped", none), "slipped", "slipped", defArgs (top 20), defBody (top 20), defScope (top 20), [], []⟩
def d_slips_in : He.DefD := ⟨("slips_in", none), "slips_in", "slips_in", defArgs (top 22), defBody (top 22), defScope (top 22), [], []⟩
def d_slips : He.DefD := ⟨("slips", none), "slips", "slips", defArgs (top 23), defBody (top 23), defScope (top 23), [], []⟩
def d_is_name : He.DefD := ⟨("is_name", none), "is_name", "is_name", defArgs (top 10), defBody (top 10), defScope (top 10), [], []⟩
def d_check_book : He.DefD := ⟨("check_book", none), "check_book", "check_book", defArgs (top 18), defBody (top 18), defScope (top 18), [], []⟩
def d_nearest_in : He.DefD := ⟨("nearest_in", none), "nearest_in", "nearest_in", defArgs (top 24), defBody (top 24), defScope (top 24), [], []⟩
def d_nearest : He.DefD := ⟨("nearest", none), "nearest", "nearest", defArgs (top 25), defBody (top 25), defScope (top 25), [], []⟩
def d_is_whole : He.DefD := ⟨("is_whole", none), "is_whole", "is_whole", defArgs (top 9), defBody (top 9), defScope (top 9), [], []⟩
def d_check_most : He.DefD := ⟨("check_most", none), "check_most", "check_most", defArgs (top 19), defBody (top 19), defScope (top 19), [], []⟩
def d_mended_in : He.DefD := ⟨("mended_in", none), "mended_in", "mended_in", defArgs (top 26), defBody (top 26), defScope (top 26), [], []⟩
def d_mended : He.DefD := ⟨("mended", none), "mended", "mended", defArgs (top 27), defBody (top 27), defScope (top 27), [], []⟩
def d__law_right : He.DefD := ⟨("_law_right", none), "_law_right", "_law_right", defArgs (top 34), defBody (top 34), defScope (top 34), [], []⟩
def d_law : He.DefD := ⟨("law", none), "law", "law", defArgs (top 35), defBody (top 35), defScope (top 35), [], []⟩
def fn : List He.DefD := [d__law_draws, d__law_next, d__law_string, d__law_book, d__law_slips, d_are_letters, d_check_string, d_begun, d_slipped, d_slips_in, d_slips, d_is_name, d_check_book, d_nearest_in, d_nearest, d_is_whole, d_check_most, d_mended_in, d_mended, d__law_right, d_law]
def x_InvalidText : ExW := ⟨"InvalidText", "self", "value", "__init__", "InvalidText.__init__", defArgs (clsSt (top 5) 0), defBody (clsSt (top 5) 0), defScope (clsSt (top 5) 0)⟩
theorem t_InvalidText : ∃ p0 p1 p2 p3 p4 p5 p6 p7 p8 p9 ar, ExT P x_InvalidText p0 p1 p2 p3 p4 p5 p6 p7 p8 p9 ar := ⟨_, _, _, _, _, _, _, _, _, _, _, rfl, rfl, rfl, rfl, rfl, rfl, rfl, rfl, rfl, by decide +kernel, free_of (by decide +kernel), by decide, rfl, rfl, by decide, by decide, fun _ _ _ _ => ⟨_, rfl⟩, fun _ _ _ _ => rfl, fun _ _ _ _ => rfl⟩
def x_InvalidList : ExW := ⟨"InvalidList", "self", "value", "__init__", "InvalidList.__init__", defArgs (clsSt (top 2) 0), defBody (clsSt (top 2) 0), defScope (clsSt (top 2) 0)⟩
theorem t_InvalidList : ∃ p0 p1 p2 p3 p4 p5 p6 p7 p8 p9 ar, ExT P x_InvalidList p0 p1 p2 p3 p4 p5 p6 p7 p8 p9 ar := ⟨_, _, _, _, _, _, _, _, _, _, _, rfl, rfl, rfl, rfl, rfl, rfl, rfl, rfl, rfl, by decide +kernel, free_of (by decide +kernel), by decide, rfl, rfl, by decide, by decide, fun _ _ _ _ => ⟨_, rfl⟩, fun _ _ _ _ => rfl, fun _ _ _ _ => rfl⟩
def x_InvalidItem : ExW := ⟨"InvalidItem", "self", "value", "__init__", "InvalidItem.__init__", defArgs (clsSt (top 3) 0), defBody (clsSt (top 3) 0), defScope (clsSt (top 3) 0)⟩
theorem t_InvalidItem : ∃ p0 p1 p2 p3 p4 p5 p6 p7 p8 p9 ar, ExT P x_InvalidItem p0 p1 p2 p3 p4 p5 p6 p7 p8 p9 ar := ⟨_, _, _, _, _, _, _, _, _, _, _, rfl, rfl, rfl, rfl, rfl, rfl, rfl, rfl, rfl, by decide +kernel, free_of (by decide +kernel), by decide, rfl, rfl, by decide, by decide, fun _ _ _ _ => ⟨_, rfl⟩, fun _ _ _ _ => rfl, fun _ _ _ _ => rfl⟩
def x_InvalidNumber : ExW := ⟨"InvalidNumber", "self", "value", "__init__", "InvalidNumber.__init__", defArgs (clsSt (top 4) 0), defBody (clsSt (top 4) 0), defScope (clsSt (top 4) 0)⟩
theorem t_InvalidNumber : ∃ p0 p1 p2 p3 p4 p5 p6 p7 p8 p9 ar, ExT P x_InvalidNumber p0 p1 p2 p3 p4 p5 p6 p7 p8 p9 ar := ⟨_, _, _, _, _, _, _, _, _, _, _, rfl, rfl, rfl, rfl, rfl, rfl, rfl, rfl, rfl, by decide +kernel, free_of (by decide +kernel), by decide, rfl, rfl, by decide, by decide, fun _ _ _ _ => ⟨_, rfl⟩, fun _ _ _ _ => rfl, fun _ _ _ _ => rfl⟩
def xs : List ExW := [x_InvalidText, x_InvalidList, x_InvalidItem, x_InvalidNumber]
def bs_0 : List (PySem.W.Frag → Bool) := [fun K => sysB K, fun K => He.eqO (PySem.W.nsIn K cStatics "thirdparty.any") (some none)]
def bs : List (PySem.W.Frag → Bool) := bs_0
def fa : List He.Fa := [.glo "_law_draws", .glo "_law_next", .glo "_law_string", .glo "_law_book", .glo "_law_slips", .glo "are_letters", .glo "check_string", .glo "begun", .glo "slipped", .glo "slips_in", .glo "slips", .glo "is_name", .glo "check_book", .glo "nearest_in", .glo "nearest", .glo "is_whole", .glo "check_most", .glo "mended_in", .glo "mended", .glo "_law_right", .glo "law", .free "ValueError", .free "abs", .free "bool", .free "enumerate", .free "int", .free "isinstance", .free "len", .free "list", .free "max", .free "min", .free "range", .free "repr", .free "set", .free "sorted", .free "str", .free "tuple", .free "zip", .free "super", .str "LETTERS" "abcdefghijklmnopqrstuvwxyz", .int "MOST_LETTERS" 8, .int "MOST_NAMES" 8, .int "LONGEST" 10, .int "MOST_SLIPS" 3, .glo "InvalidText", .glo "InvalidList", .glo "InvalidItem", .glo "InvalidNumber"]
abbrev R : PySem.W.OpenRow := PySem.W.OpenLaw.row PySem.Challenge.rw_everrow_k68_slips_and_nearest_names
abbrev hk : PySem.W.Hook := hookX 4 fa fn P.main.file xs bs
def ob (s : PySem.W.SharedT) : AlX := obsXG 4 fa fn P.main.file xs bs (HandSHeadRun.getT s)
theorem ob_eq (s : PySem.W.SharedT) : ob s = hk.obs s.abs := obsXG_eq (HandSHeadRun.getT_eq s)
def loose_0 : List Str := ["RowError", "InvalidList", "InvalidItem", "InvalidNumber", "InvalidText", "LETTERS", "MOST_LETTERS", "is_whole", "is_name", "are_letters", "MOST_NAMES", "LONGEST", "MOST_SLIPS", "check_string", "check_book", "check_most", "slipped", "begun", "slips_in", "slips", "nearest_in", "nearest", "mended_in", "mended", "_law_draws"]
def loose_25 : List Str := ["_law_next", "_law_string", "_law_slips", "_law_book", "_law_right"]
def loose : List Str := loose_0 ++ loose_25
theorem run (w : World) : HandSHeadRun.RunEq R (PySem.W.view R.prog [35]) hk ob 4500 loose w := by
  intro os
  kernel_rfl
theorem facts {w : World} {K : PySem.W.Frag} {h : Heap} {mg : Str → Option Value} {f : Addr} (X : K.In h) (G : h.Ns mainGlobals mg) (hfa : mg ("law" : Str) = some (.ref f)) (c : SaysX fa fn P.main.file xs bs K) :
    ∃ fd : FuncData, (∀ (s : Shared) (v : Value), BindsTo s fd ⟨[v], []⟩ [("_law_script", v)]) ∧ ∀ base : Heap, K.In base → base.Ns mainGlobals mg → FnG P w K mg base (L2.CX P w) 43 f fd ["_law_script"] (spM ⟨K, ctOf mg⟩ m_law 1) := by
  have T : Tx mg := ⟨He.free_ok X G (c.d.fact 21 (f := .free "ValueError") rfl), He.free_ok X G (c.d.fact 22 (f := .free "abs") rfl), He.free_ok X G (c.d.fact 23 (f := .free "bool") rfl), He.free_ok X G (c.d.fact 24 (f := .free "enumerate") rfl), He.free_ok X G (c.d.fact 25 (f := .free "int") rfl), He.free_ok X G (c.d.fact 26 (f := .free "isinstance") rfl), He.free_ok X G (c.d.fact 27 (f := .free "len") rfl), He.free_ok X G (c.d.fact 28 (f := .free "list") rfl), He.free_ok X G (c.d.fact 29 (f := .free "max") rfl), He.free_ok X G (c.d.fact 30 (f := .free "min") rfl), He.free_ok X G (c.d.fact 31 (f := .free "range") rfl), He.free_ok X G (c.d.fact 32 (f := .free "repr") rfl), He.free_ok X G (c.d.fact 33 (f := .free "set") rfl), He.free_ok X G (c.d.fact 34 (f := .free "sorted") rfl), He.free_ok X G (c.d.fact 35 (f := .free "str") rfl), He.free_ok X G (c.d.fact 36 (f := .free "tuple") rfl), He.free_ok X G (c.d.fact 37 (f := .free "zip") rfl), He.str_ok X G (c.d.fact 39 (f := .str "LETTERS" "abcdefghijklmnopqrstuvwxyz") rfl), He.int_ok X G (c.d.fact 40 (f := .int "MOST_LETTERS" 8) rfl), He.int_ok X G (c.d.fact 41 (f := .int "MOST_NAMES" 8) rfl), He.int_ok X G (c.d.fact 42 (f := .int "LONGEST" 10) rfl), He.int_ok X G (c.d.fact 43 (f := .int "MOST_SLIPS" 3) rfl)⟩
  obtain ⟨fdx_InvalidText, F_InvalidText⟩ := c.exc (P := P) 0 (e := x_InvalidText) rfl
  obtain ⟨fdx_InvalidList, F_InvalidList⟩ := c.exc (P := P) 1 (e := x_InvalidList) rfl
  obtain ⟨fdx_InvalidItem, F_InvalidItem⟩ := c.exc (P := P) 2 (e := x_InvalidItem) rfl
  obtain ⟨fdx_InvalidNumber, F_InvalidNumber⟩ := c.exc (P := P) 3 (e := x_InvalidNumber) rfl
  obtain ⟨_, _, _, _, _, _, _, _, _, _, _, tt_InvalidText⟩ := t_InvalidText
  obtain ⟨_, _, _, _, _, _, _, _, _, _, _, tt_InvalidList⟩ := t_InvalidList
  obtain ⟨_, _, _, _, _, _, _, _, _, _, _, tt_InvalidItem⟩ := t_InvalidItem
  obtain ⟨_, _, _, _, _, _, _, _, _, _, _, tt_InvalidNumber⟩ := t_InvalidNumber
  have hst : PySem.W.nsIn K cStatics "thirdparty.any" = some none := He.eqO_ok (c.bit 1 rfl)
  have CT : CTab K mg := ⟨trivial, He.glo_ok X G (c.d.fact 44 (f := .glo "InvalidText") rfl), He.glo_ok X G (c.d.fact 45 (f := .glo "InvalidList") rfl), He.glo_ok X G (c.d.fact 46 (f := .glo "InvalidItem") rfl), He.glo_ok X G (c.d.fact 47 (f := .glo "InvalidNumber") rfl), F_InvalidText.E, F_InvalidList.E, F_InvalidItem.E, F_InvalidNumber.E, F_InvalidText.no, F_InvalidList.no, F_InvalidItem.no, F_InvalidNumber.no, sysB_ok (c.bit 0 rfl)⟩
  have X_InvalidText : ∀ base, Exk P w K mg base "InvalidText" "value" (He.ga K "InvalidText") := fun base => ExF.exk (e := x_InvalidText) X G F_InvalidText tt_InvalidText (He.free_ok X G (c.d.fact 38 (f := .free "super") rfl)) hst fun _ _ _ _ _ _ _ _ us its h1 h2 => match us, its, h1, h2 with | [_, _], [_], _, _ => ⟨_, rfl, rfl⟩
  have X_InvalidList : ∀ base, Exk P w K mg base "InvalidList" "value" (He.ga K "InvalidList") := fun base => ExF.exk (e := x_InvalidList) X G F_InvalidList tt_InvalidList (He.free_ok X G (c.d.fact 38 (f := .free "super") rfl)) hst fun _ _ _ _ _ _ _ _ us its h1 h2 => match us, its, h1, h2 with | [_, _], [_], _, _ => ⟨_, rfl, rfl⟩
  have X_InvalidItem : ∀ base, Exk P w K mg base "InvalidItem" "value" (He.ga K "InvalidItem") := fun base => ExF.exk (e := x_InvalidItem) X G F_InvalidItem tt_InvalidItem (He.free_ok X G (c.d.fact 38 (f := .free "super") rfl)) hst fun _ _ _ _ _ _ _ _ us its h1 h2 => match us, its, h1, h2 with | [_, _], [_], _, _ => ⟨_, rfl, rfl⟩
  have X_InvalidNumber : ∀ base, Exk P w K mg base "InvalidNumber" "value" (He.ga K "InvalidNumber") := fun base => ExF.exk (e := x_InvalidNumber) X G F_InvalidNumber tt_InvalidNumber (He.free_ok X G (c.d.fact 38 (f := .free "super") rfl)) hst fun _ _ _ _ _ _ _ _ us its h1 h2 => match us, its, h1, h2 with | [_, _], [_], _, _ => ⟨_, rfl, rfl⟩
  obtain ⟨fd__law_draws, F__law_draws⟩ := c.d.def_ 0 (d := d__law_draws) rfl
  have D__law_draws : Df K mg "_law_draws" (top 29) ["_law_cell"] [] _ fd__law_draws := Df.mk0 F__law_draws (He.glo_ok X G (c.d.fact 0 (f := .glo "_law_draws") rfl)) fun _ _ _ _ _ _ us hl => match us, hl with | [_], _ => rfl
  obtain ⟨fd__law_next, F__law_next⟩ := c.d.def_ 1 (d := d__law_next) rfl
  have D__law_next : Df K mg "_law_next" (top 30) ["_law_draws_here"] [] _ fd__law_next := Df.mk0 F__law_next (He.glo_ok X G (c.d.fact 1 (f := .glo "_law_next") rfl)) fun _ _ _ _ _ _ us hl => match us, hl with | [_], _ => rfl
  obtain ⟨fd__law_string, F__law_string⟩ := c.d.def_ 2 (d := d__law_string) rfl
  have D__law_string : Df K mg "_law_string" (top 31) ["_law_draws_here", "_law_most_here"] [] _ fd__law_string := Df.mk0 F__law_string (He.glo_ok X G (c.d.fact 2 (f := .glo "_law_string") rfl)) fun _ _ _ _ _ _ us hl => match us, hl with | [_, _], _ => rfl
  obtain ⟨fd__law_book, F__law_book⟩ := c.d.def_ 3 (d := d__law_book) rfl
  have D__law_book : Df K mg "_law_book" (top 33) ["_law_draws_here"] [] _ fd__law_book := Df.mk0 F__law_book (He.glo_ok X G (c.d.fact 3 (f := .glo "_law_book") rfl)) fun _ _ _ _ _ _ us hl => match us, hl with | [_], _ => rfl
  obtain ⟨fd__law_slips, F__law_slips⟩ := c.d.def_ 4 (d := d__law_slips) rfl
  have D__law_slips : Df K mg "_law_slips" (top 32) ["_law_one_here", "_law_other_here", "_law_known"] [] _ fd__law_slips := Df.mk0 F__law_slips (He.glo_ok X G (c.d.fact 4 (f := .glo "_law_slips") rfl)) fun _ _ _ _ _ _ us hl => match us, hl with | [_, _, _], _ => rfl
  obtain ⟨fd_are_letters, F_are_letters⟩ := c.d.def_ 5 (d := d_are_letters) rfl
  have D_are_letters : Df K mg "are_letters" (top 12) ["value", "least", "most"] [] _ fd_are_letters := Df.mk0 F_are_letters (He.glo_ok X G (c.d.fact 5 (f := .glo "are_letters") rfl)) fun _ _ _ _ _ _ us hl => match us, hl with | [_, _, _], _ => rfl
  obtain ⟨fd_check_string, F_check_string⟩ := c.d.def_ 6 (d := d_check_string) rfl
  have D_check_string : Df K mg "check_string" (top 17) ["value"] [] _ fd_check_string := Df.mk0 F_check_string (He.glo_ok X G (c.d.fact 6 (f := .glo "check_string") rfl)) fun _ _ _ _ _ _ us hl => match us, hl with | [_], _ => rfl
  obtain ⟨fd_begun, F_begun⟩ := c.d.def_ 7 (d := d_begun) rfl
  have D_begun : Df K mg "begun" (top 21) ["name"] [] _ fd_begun := Df.mk0 F_begun (He.glo_ok X G (c.d.fact 7 (f := .glo "begun") rfl)) fun _ _ _ _ _ _ us hl => match us, hl with | [_], _ => rfl
  obtain ⟨fd_slipped, F_slipped⟩ := c.d.def_ 8 (d := d_slipped) rfl
  have D_slipped : Df K mg "slipped" (top 20) ["name", "rows", "last", "letter"] [] _ fd_slipped := Df.mk0 F_slipped (He.glo_ok X G (c.d.fact 8 (f := .glo "slipped") rfl)) fun _ _ _ _ _ _ us hl => match us, hl with | [_, _, _, _], _ => rfl
  obtain ⟨fd_slips_in, F_slips_in⟩ := c.d.def_ 9 (d := d_slips_in) rfl
  have D_slips_in : Df K mg "slips_in" (top 22) ["name", "string"] [] _ fd_slips_in := Df.mk0 F_slips_in (He.glo_ok X G (c.d.fact 9 (f := .glo "slips_in") rfl)) fun _ _ _ _ _ _ us hl => match us, hl with | [_, _], _ => rfl
  obtain ⟨fd_slips, F_slips⟩ := c.d.def_ 10 (d := d_slips) rfl
  have D_slips : Df K mg "slips" (top 23) ["one", "other"] [] _ fd_slips := Df.mk0 F_slips (He.glo_ok X G (c.d.fact 10 (f := .glo "slips") rfl)) fun _ _ _ _ _ _ us hl => match us, hl with | [_, _], _ => rfl
  obtain ⟨fd_is_name, F_is_name⟩ := c.d.def_ 11 (d := d_is_name) rfl
  have D_is_name : Df K mg "is_name" (top 10) ["value"] [] _ fd_is_name := Df.mk0 F_is_name (He.glo_ok X G (c.d.fact 11 (f := .glo "is_name") rfl)) fun _ _ _ _ _ _ us hl => match us, hl with | [_], _ => rfl
  obtain ⟨fd_check_book, F_check_book⟩ := c.d.def_ 12 (d := d_check_book) rfl
  have D_check_book : Df K mg "check_book" (top 18) ["book"] [] _ fd_check_book := Df.mk0 F_check_book (He.glo_ok X G (c.d.fact 12 (f := .glo "check_book") rfl)) fun _ _ _ _ _ _ us hl => match us, hl with | [_], _ => rfl
  obtain ⟨fd_nearest_in, F_nearest_in⟩ := c.d.def_ 13 (d := d_nearest_in) rfl
  have D_nearest_in : Df K mg "nearest_in" (top 24) ["book", "string"] [] _ fd_nearest_in := Df.mk0 F_nearest_in (He.glo_ok X G (c.d.fact 13 (f := .glo "nearest_in") rfl)) fun _ _ _ _ _ _ us hl => match us, hl with | [_, _], _ => rfl
  obtain ⟨fd_nearest, F_nearest⟩ := c.d.def_ 14 (d := d_nearest) rfl
  have D_nearest : Df K mg "nearest" (top 25) ["book", "string"] [] _ fd_nearest := Df.mk0 F_nearest (He.glo_ok X G (c.d.fact 14 (f := .glo "nearest") rfl)) fun _ _ _ _ _ _ us hl => match us, hl with | [_, _], _ => rfl
  obtain ⟨fd_is_whole, F_is_whole⟩ := c.d.def_ 15 (d := d_is_whole) rfl
  have D_is_whole : Df K mg "is_whole" (top 9) ["value"] [] _ fd_is_whole := Df.mk0 F_is_whole (He.glo_ok X G (c.d.fact 15 (f := .glo "is_whole") rfl)) fun _ _ _ _ _ _ us hl => match us, hl with | [_], _ => rfl
  obtain ⟨fd_check_most, F_check_most⟩ := c.d.def_ 16 (d := d_check_most) rfl
  have D_check_most : Df K mg "check_most" (top 19) ["most"] [] _ fd_check_most := Df.mk0 F_check_most (He.glo_ok X G (c.d.fact 16 (f := .glo "check_most") rfl)) fun _ _ _ _ _ _ us hl => match us, hl with | [_], _ => rfl
  obtain ⟨fd_mended_in, F_mended_in⟩ := c.d.def_ 17 (d := d_mended_in) rfl
  have D_mended_in : Df K mg "mended_in" (top 26) ["book", "string", "most"] [] _ fd_mended_in := Df.mk0 F_mended_in (He.glo_ok X G (c.d.fact 17 (f := .glo "mended_in") rfl)) fun _ _ _ _ _ _ us hl => match us, hl with | [_, _, _], _ => rfl
  obtain ⟨fd_mended, F_mended⟩ := c.d.def_ 18 (d := d_mended) rfl
  have D_mended : Df K mg "mended" (top 27) ["book", "string", "most"] [] _ fd_mended := Df.mk0 F_mended (He.glo_ok X G (c.d.fact 18 (f := .glo "mended") rfl)) fun _ _ _ _ _ _ us hl => match us, hl with | [_, _, _], _ => rfl
  obtain ⟨fd__law_right, F__law_right⟩ := c.d.def_ 19 (d := d__law_right) rfl
  have D__law_right : Df K mg "_law_right" (top 34) ["_law_draws_here", "_law_one_here", "_law_other_here", "_law_book_here"] [] _ fd__law_right := Df.mk0 F__law_right (He.glo_ok X G (c.d.fact 19 (f := .glo "_law_right") rfl)) fun _ _ _ _ _ _ us hl => match us, hl with | [_, _, _, _], _ => rfl
  obtain ⟨fd_law, F_law⟩ := c.d.def_ 20 (d := d_law) rfl
  have D_law : Df K mg "law" (top 35) ["_law_script"] [] _ fd_law := Df.mk0 F_law (He.glo_ok X G (c.d.fact 20 (f := .glo "law") rfl)) fun _ _ _ _ _ _ us hl => match us, hl with | [_], _ => rfl
  have e := hfa.symm.trans D_law.gm
  cases e
  have b := FunD.bindsA (ps := ["_law_script"]) F_law fun _ _ _ _ _ _ us hl => match us, hl with | [_], _ => rfl
  refine ⟨fd_law, fun s v => b s [v] rfl, fun base _ _ => ?_⟩
  have G__law_draws : FnG P w K mg base (L2.CX P w) 1 _ fd__law_draws ["_law_cell"] (spM ⟨K, ctOf mg⟩ m__law_draws 1) := ok__law_draws T CT D__law_draws
  have G__law_next : FnG P w K mg base (L2.CX P w) 1 _ fd__law_next ["_law_draws_here"] (spM ⟨K, ctOf mg⟩ m__law_next 1) := ok__law_next T CT D__law_next
  have G__law_string : FnG P w K mg base (L2.CX P w) 2 _ fd__law_string ["_law_draws_here", "_law_most_here"] (spM ⟨K, ctOf mg⟩ m__law_string 2) := ok__law_string T CT D__law_string D__law_next G__law_next
  have G__law_book : FnG P w K mg base (L2.CX P w) 3 _ fd__law_book ["_law_draws_here"] (spM ⟨K, ctOf mg⟩ m__law_book 1) := ok__law_book T CT D__law_book D__law_next G__law_next D__law_string G__law_string
  have G__law_slips : FnG P w K mg base (L2.CX P w) 41 _ fd__law_slips ["_law_one_here", "_law_other_here", "_law_known"] (spM ⟨K, ctOf mg⟩ m__law_slips 3) := ok__law_slips T CT D__law_slips
  have G_are_letters : FnG P w K mg base (L2.CX P w) 1 _ fd_are_letters ["value", "least", "most"] (spM ⟨K, ctOf mg⟩ m_are_letters 3) := ok_are_letters T CT D_are_letters
  have G_check_string : FnG P w K mg base (L2.CX P w) 3 _ fd_check_string ["value"] (spM ⟨K, ctOf mg⟩ m_check_string 1) := ok_check_string T CT D_check_string (X_InvalidText base) D_are_letters G_are_letters
  have G_begun : FnG P w K mg base (L2.CX P w) 1 _ fd_begun ["name"] (spM ⟨K, ctOf mg⟩ m_begun 1) := ok_begun T CT D_begun
  have G_slipped : FnG P w K mg base (L2.CX P w) 1 _ fd_slipped ["name", "rows", "last", "letter"] (spM ⟨K, ctOf mg⟩ m_slipped 4) := ok_slipped T CT D_slipped
  have G_slips_in : FnG P w K mg base (L2.CX P w) 2 _ fd_slips_in ["name", "string"] (spM ⟨K, ctOf mg⟩ m_slips_in 2) := ok_slips_in T CT D_slips_in D_begun G_begun D_slipped G_slipped
  have G_slips : FnG P w K mg base (L2.CX P w) 4 _ fd_slips ["one", "other"] (spM ⟨K, ctOf mg⟩ m_slips 2) := ok_slips T CT D_slips D_check_string G_check_string D_slips_in G_slips_in
  have G_is_name : FnG P w K mg base (L2.CX P w) 1 _ fd_is_name ["value"] (spM ⟨K, ctOf mg⟩ m_is_name 1) := ok_is_name T CT D_is_name
  have G_check_book : FnG P w K mg base (L2.CX P w) 3 _ fd_check_book ["book"] (spM ⟨K, ctOf mg⟩ m_check_book 1) := ok_check_book T CT D_check_book (X_InvalidList base) (X_InvalidItem base) D_is_name G_is_name
  have G_nearest_in : FnG P w K mg base (L2.CX P w) 3 _ fd_nearest_in ["book", "string"] (spM ⟨K, ctOf mg⟩ m_nearest_in 2) := ok_nearest_in T CT D_nearest_in D_slips_in G_slips_in
  have G_nearest : FnG P w K mg base (L2.CX P w) 4 _ fd_nearest ["book", "string"] (spM ⟨K, ctOf mg⟩ m_nearest 2) := ok_nearest T CT D_nearest D_check_book G_check_book D_check_string G_check_string D_nearest_in G_nearest_in
  have G_is_whole : FnG P w K mg base (L2.CX P w) 1 _ fd_is_whole ["value"] (spM ⟨K, ctOf mg⟩ m_is_whole 1) := ok_is_whole T CT D_is_whole
  have G_check_most : FnG P w K mg base (L2.CX P w) 3 _ fd_check_most ["most"] (spM ⟨K, ctOf mg⟩ m_check_most 1) := ok_check_most T CT D_check_most (X_InvalidNumber base) D_is_whole G_is_whole
  have G_mended_in : FnG P w K mg base (L2.CX P w) 4 _ fd_mended_in ["book", "string", "most"] (spM ⟨K, ctOf mg⟩ m_mended_in 3) := ok_mended_in T CT D_mended_in D_nearest_in G_nearest_in
  have G_mended : FnG P w K mg base (L2.CX P w) 5 _ fd_mended ["book", "string", "most"] (spM ⟨K, ctOf mg⟩ m_mended 3) := ok_mended T CT D_mended D_check_book G_check_book D_check_string G_check_string D_check_most G_check_most D_mended_in G_mended_in
  have G__law_right : FnG P w K mg base (L2.CX P w) 42 _ fd__law_right ["_law_draws_here", "_law_one_here", "_law_other_here", "_law_book_here"] (spM ⟨K, ctOf mg⟩ m__law_right 4) := ok__law_right T CT D__law_right D__law_slips G__law_slips D_slips G_slips D_nearest G_nearest D_mended G_mended
  have G_law : FnG P w K mg base (L2.CX P w) 43 _ fd_law ["_law_script"] (spM ⟨K, ctOf mg⟩ m_law 1) := ok_law T CT D_law D__law_draws G__law_draws D__law_book G__law_book D__law_right G__law_right D__law_string G__law_string D_slips G_slips D_nearest G_nearest
  exact G_law
theorem holds_of (hm : ∀ ns : List Int, ns.length ≤ 63 → ∃ h', m_law [.sl (ns.map Val.int)] [] = .ok (.bl true) h') : PySem.Challenge.rw_everrow_k68_slips_and_nearest_names.Holds := by
  w_on; o_law
  refine HandSHeadRun.head_any (r := PySem.W.OpenLaw.row PySem.Challenge.rw_everrow_k68_slips_and_nearest_names) (q := PySem.W.view (PySem.W.OpenLaw.row PySem.Challenge.rw_everrow_k68_slips_and_nearest_names).prog [35]) (H := hk) (ob := ob) (M := 4500) (loose := loose) (d := HandSHeadRun.topDef (PySem.W.OpenLaw.row PySem.Challenge.rw_everrow_k68_slips_and_nearest_names).prog 35) (kwd := []) ob_eq
    (by kernel_rfl) (fun s => by kernel_rfl) run (by kernel_rfl) (by kernel_rfl) (by kernel_rfl) (by rfl) (by first | assumption | decide +kernel) (by decide +kernel) ⟨rfl, rfl, rfl, rfl, rfl, by decide +kernel⟩ ?hw ?hc
  case hw => w_witness2
  case hc =>
    refine walk_go (l := PySem.Challenge.rw_everrow_k68_slips_and_nearest_names) (n := 63) (k := 43) (x := "_law_script") (CX := fun w => L2.CX P w) rfl (by decide) (by kernel_rfl) ⟨rfl, by decide, by decide⟩ ?F (fun _ _ _ _ _ z => cx_false z)
    intro w mg fa h Y G hmg0
    obtain ⟨K, KX, c⟩ := Y
    have hmg : mg ("law" : PySem.Str) = some (.ref fa) := by
      have e : (HandSHeadRun.topDef (PySem.W.OpenLaw.row PySem.Challenge.rw_everrow_k68_slips_and_nearest_names).prog 35).name = ("law" : PySem.Str) := by kernel_rfl
      rw [← e]
      exact hmg0
    obtain ⟨fd, hb, hF⟩ := facts (w := w) KX G hmg c
    exact ⟨K, fd, spM ⟨K, ctOf mg⟩ m_law 1, KX, hb, fun H a ns hl hO hS => law_sp hO hS (hm ns hl), hF⟩
end W

set_option Elab.async false
set_option linter.all false
set_option maxRecDepth 100000
set_option maxHeartbeats 4000000
namespace W
open PySem L2 Mr
theorem a__law_draws (x0 : Val) (h : AH) : m__law_draws [x0] h = finK (b__law_draws [some x0] h) := mFn_fin rfl
theorem a__law_next (x0 : Val) (h : AH) : m__law_next [x0] h = finK (b__law_next [some x0, none, none] h) := mFn_fin rfl
theorem a__law_string (x0 x1 : Val) (h : AH) : m__law_string [x0, x1] h = finK (b__law_string [some x0, some x1, none] h) := mFn_fin rfl
theorem a__law_book (x0 : Val) (h : AH) : m__law_book [x0] h = finK (b__law_book [some x0, none, none] h) := mFn_fin rfl
theorem a__law_slips (x0 x1 x2 : Val) (k : Nat) (h : AH) : mr__law_slips (k + 1) [x0, x1, x2] h = finK (b__law_slips (bs__law_slips k) [some x0, some x1, some x2, none] h) := mFn_fin rfl
theorem a_are_letters (x0 x1 x2 : Val) (h : AH) : m_are_letters [x0, x1, x2] h = finK (b_are_letters [some x0, some x1, some x2, none] h) := mFn_fin rfl
theorem a_check_string (x0 : Val) (h : AH) : m_check_string [x0] h = finK (b_check_string [some x0] h) := mFn_fin rfl
theorem a_begun (x0 : Val) (h : AH) : m_begun [x0] h = finK (b_begun [some x0] h) := mFn_fin rfl
theorem a_slipped (x0 x1 x2 x3 : Val) (h : AH) : m_slipped [x0, x1, x2, x3] h = finK (b_slipped [some x0, some x1, some x2, some x3, none, none, none, none, none] h) := mFn_fin rfl
theorem a_slips_in (x0 x1 : Val) (h : AH) : m_slips_in [x0, x1] h = finK (b_slips_in [some x0, some x1, none, none, none] h) := mFn_fin rfl
theorem a_slips (x0 x1 : Val) (h : AH) : m_slips [x0, x1] h = finK (b_slips [some x0, some x1] h) := mFn_fin rfl
theorem a_is_name (x0 : Val) (h : AH) : m_is_name [x0] h = finK (b_is_name [some x0, none] h) := mFn_fin rfl
theorem a_check_book (x0 : Val) (h : AH) : m_check_book [x0] h = finK (b_check_book [some x0, none, none] h) := mFn_fin rfl
theorem a_nearest_in (x0 x1 : Val) (h : AH) : m_nearest_in [x0, x1] h = finK (b_nearest_in [some x0, some x1, none, none, none] h) := mFn_fin rfl
theorem a_nearest (x0 x1 : Val) (h : AH) : m_nearest [x0, x1] h = finK (b_nearest [some x0, some x1] h) := mFn_fin rfl
theorem a_is_whole (x0 : Val) (h : AH) : m_is_whole [x0] h = finK (b_is_whole [some x0] h) := mFn_fin rfl
theorem a_check_most (x0 : Val) (h : AH) : m_check_most [x0] h = finK (b_check_most [some x0] h) := mFn_fin rfl
theorem a_mended_in (x0 x1 x2 : Val) (h : AH) : m_mended_in [x0, x1, x2] h = finK (b_mended_in [some x0, some x1, some x2, none, none] h) := mFn_fin rfl
theorem a_mended (x0 x1 x2 : Val) (h : AH) : m_mended [x0, x1, x2] h = finK (b_mended [some x0, some x1, some x2] h) := mFn_fin rfl
theorem a__law_right (x0 x1 x2 x3 : Val) (h : AH) : m__law_right [x0, x1, x2, x3] h = finK (b__law_right [some x0, some x1, some x2, some x3, none, none, none, none, none, none, none, none] h) := mFn_fin rfl
theorem a_law (x0 : Val) (h : AH) : m_law [x0] h = finK (b_law [some x0, none, none, none, none, none, none] h) := mFn_fin rfl
end W

set_option Elab.async false
set_option linter.all false
set_option maxRecDepth 100000
set_option maxHeartbeats 4000000
namespace W
open PySem L2 Mr
/-! ### draws -/
theorem log_lt {x : Int} {m : Nat} (h0 : 0 ≤ x) (h : x < 2 ^ m) (hm : 0 < m) : x.natAbs.log2 < m := by
  by_cases hz : x.natAbs = 0
  · rw [hz]; exact hm
  · rw [Nat.log2_lt hz]
    have e : (x.natAbs : Int) = x := Int.natAbs_of_nonneg h0
    have h2 : ((x.natAbs : Nat) : Int) < ((2 ^ m : Nat) : Int) := by rw [e]; simpa using h
    exact_mod_cast h2
theorem mul_ok {x y : Int} {m : Nat} (h0 : 0 ≤ x) (h : x < 2 ^ m) (hm : 0 < m) (h1 : 0 ≤ y) (h2 : y < 2 ^ 60) (h3 : m ≤ 100000) : mulOk x y = true := by
  unfold mulOk
  have a := log_lt h0 h hm
  have b := log_lt h1 h2 (by omega)
  exact decide_eq_true (by omega)
/-- a row of draws -/
def drV (a c : Int) (b : Bool) : AO := .lst [.int a, .int c, .bl b]
structure Dr (c : Nat) (o : AO) : Prop where
  ex : ∃ (a k : Int) (b : Bool), o = drV a k b ∧ 0 ≤ k ∧ k ≤ (c : Int)
theorem dr_plain {c : Nat} {o : AO} (g : Dr c o) : o.plain = true := by
  obtain ⟨a, k, b, rfl, _⟩ := g.ex
  simp [AO.plain, drV]
theorem dr_mono {c d : Nat} {o : AO} (g : Dr c o) (h : c ≤ d) : Dr d o := by
  obtain ⟨a, k, b, e, h0, h1⟩ := g.ex
  exact ⟨a, k, b, e, h0, by omega⟩
theorem at0 (x y z : Val) : L2.atI [x, y, z] 0 = some x := rfl
theorem at1 (x y z : Val) : L2.atI [x, y, z] 1 = some y := rfl
theorem at2 (x y z : Val) : L2.atI [x, y, z] 2 = some z := rfl
theorem p6 : powOk 10 6 = true := by decide +kernel
theorem e6 : (10 : Int) ^ (6 : Int).toNat = 1000000 := by decide +kernel
theorem p18 : powOk 10 18 = true := by decide +kernel
theorem p60 : powOk 10 60 = true := by decide +kernel
theorem p60b : powOk (10 ^ (60 : Int).toNat) 60 = true := by decide +kernel
theorem p60c : powOk ((10 ^ (60 : Int).toNat) ^ (60 : Int).toNat) 4 = true := by decide +kernel
theorem q60 : decide ((0 : Int) < ((10 ^ (60 : Int).toNat) ^ (60 : Int).toNat) ^ (4 : Int).toNat) = true := by decide +kernel
theorem spec_next {h : AH} {n c : Nat} {o : AO} (hn : h[n]? = some o) (g : Dr c o) (hc : c ≤ 100000) :
    ∃ (d : Int) (o' : AO), 0 ≤ d ∧ mutN 0 m__law_next [.ref n] h = .ok (.v (.int d)) (h.set n o') ∧ Dr (c + 1) o' := by
  obtain ⟨a, k, b, rfl, h0, h1⟩ := g.ex
  have n0 : ixN ([Val.int a, .int (k + 1), .bl b]).length 0 = some 0 := rfl
  have n1 : ixN ([Val.int a, .int k, .bl b]).length 1 = some 1 := rfl
  cases b with
  | true =>
    refine ⟨a % 1000000, drV (a / 1000000) (k + 1) true, Int.emod_nonneg _ (by decide), ?_, ⟨_, _, _, rfl, by omega, by omega⟩⟩
    refine mut_of (o := drV a k true) (o' := drV (a / 1000000) (k + 1) true) (h2 := [drV (a / 1000000) (k + 1) true]) rfl (by simp) hn (by simp [AO.plain, drV]) ?_ (plain_int _) rfl (by simp [AO.plain, drV])
    show m__law_next [.ref 0] [drV a k true] = _
    rw [a__law_next]
    unfold b__law_next drV
    have d6 : divOk 1000000 = true := rfl
    have t6 : decide ((0 : Int) < 1000000) = true := rfl
    simp -implicitDefEqProofs only [RR, sz0, sz1, sz2, sz3, wipeM, List.set_cons_succ, List.set_cons_zero, List.getElem?_cons_succ, List.getElem?_cons_zero, ↓reduceIte, Bool.false_eq_true, List.length_cons, List.length_nil, Nat.zero_add, Nat.reduceAdd, beq_self_eq_true, Bool.not_true, Bool.not_false, List.cons_append, List.nil_append, List.append_nil, decide_true, decide_false, Bool.true_and, Bool.and_true, at0, at1, at2, p6, e6, d6, t6, snK_some _ _ _ _ _ n0, snK_some _ _ _ _ _ n1]
  | false =>
    generalize hm : ((a % 1000003 + (k + 1) * (k + 1) * 7919 + (k + 1)) * 48271) % 2147483629 = m
    have c1 : 0 ≤ m := by rw [← hm]; exact Int.emod_nonneg _ (by decide)
    have c2 : m < 2147483629 := by rw [← hm]; exact Int.emod_lt_of_pos _ (by decide)
    generalize hq : (m * m) % 2147483587 = q
    have d1 : 0 ≤ q := by rw [← hq]; exact Int.emod_nonneg _ (by decide)
    have d2 : q < 2147483587 := by rw [← hq]; exact Int.emod_lt_of_pos _ (by decide)
    refine ⟨q * (q + 2) % 2147483579 / 7, drV a (k + 1) false, Int.ediv_nonneg (Int.emod_nonneg _ (by decide)) (by decide), ?_, ⟨_, _, _, rfl, by omega, by omega⟩⟩
    refine mut_of (o := drV a k false) (o' := drV a (k + 1) false) (h2 := [drV a (k + 1) false]) rfl (by simp) hn (by simp [AO.plain, drV]) ?_ (plain_int _) rfl (by simp [AO.plain, drV])
    show m__law_next [.ref 0] [drV a k false] = _
    rw [a__law_next]
    unfold b__law_next drV
    have a1 := Int.emod_nonneg a (b := 1000003) (by decide)
    have a2 := Int.emod_lt_of_pos a (b := 1000003) (by decide)
    have kk : (k + 1) * (k + 1) ≤ 100001 * 100001 := Int.mul_le_mul (by omega) (by omega) (by omega) (by omega)
    have kk0 : 0 ≤ (k + 1) * (k + 1) := Int.mul_nonneg (by omega) (by omega)
    have m1 : mulOk (k + 1) (k + 1) = true := mul_ok (m := 40) (by omega) (by omega) (by omega) (by omega) (by omega) (by omega)
    have m2 : mulOk ((k + 1) * (k + 1)) 7919 = true := mul_ok (m := 40) kk0 (by omega) (by omega) (by omega) (by omega) (by omega)
    have m3 : mulOk (a % 1000003 + (k + 1) * (k + 1) * 7919 + (k + 1)) 48271 = true := mul_ok (m := 60) (by omega) (by omega) (by omega) (by omega) (by omega) (by omega)
    have m4 : mulOk m m = true := mul_ok (m := 40) c1 (by omega) (by omega) c1 (by omega) (by omega)
    have m5 : mulOk q (q + 2) = true := mul_ok (m := 40) d1 (by omega) (by omega) (by omega) (by omega) (by omega)
    have t1 : decide ((0 : Int) < 1000003) = true := rfl
    have t2 : decide ((0 : Int) < 2147483629) = true := rfl
    have t3 : decide ((0 : Int) < 2147483587) = true := rfl
    have t4 : decide ((0 : Int) < 2147483579) = true := rfl
    have t5 : divOk 7 = true := rfl
    simp -implicitDefEqProofs only [RR, sz0, sz1, sz2, sz3, wipeM, List.set_cons_succ, List.set_cons_zero, List.getElem?_cons_succ, List.getElem?_cons_zero, ↓reduceIte, Bool.false_eq_true, List.length_cons, List.length_nil, Nat.zero_add, Nat.reduceAdd, beq_self_eq_true, Bool.not_true, Bool.not_false, List.cons_append, List.nil_append, List.append_nil, decide_true, decide_false, Bool.true_and, Bool.and_true, at0, at1, at2, m1, m2, m3, m4, m5, hm, hq, t1, t2, t3, t4, t5, snK_some _ _ _ _ _ n1]
theorem spec_draws (i : Int) (h : AH) : ∃ a : Int, ∃ b : Bool, pureN m__law_draws [.int i] h = .ok (.n [.int a, .int 0, .bl b]) h := by
  refine ⟨i % ((10 ^ (60 : Int).toNat) ^ (60 : Int).toNat) ^ (4 : Int).toNat, decide ((10 : Int) ^ (18 : Int).toNat ≤ i), ?_⟩
  refine pure_n (k := 0) (h2 := [.lst _]) (by simp) ?_ rfl (by simp) h
  rw [a__law_draws]
  unfold b__law_draws
  simp -implicitDefEqProofs only [RR, sz0, sz1, sz2, sz3, wipeM, List.set_cons_succ, List.set_cons_zero, List.getElem?_cons_succ, List.getElem?_cons_zero, ↓reduceIte, Bool.false_eq_true, List.length_cons, List.length_nil, Nat.zero_add, Nat.reduceAdd, beq_self_eq_true, Bool.not_true, Bool.not_false, List.cons_append, List.nil_append, List.append_nil, decide_true, decide_false, Bool.true_and, Bool.and_true, p18, p60, p60b, p60c, q60, NVT_n]
/-- one draw, below a bound -/
theorem dr_one {h : AH} {n c : Nat} {o : AO} (hn : h[n]? = some o) (g : Dr c o) (hc : c ≤ 100000) :
    ∃ (d : Int) (o' : AO), 0 ≤ d ∧ mutN 0 m__law_next [.ref n] h = .ok (.v (.int d)) (h.set n o') ∧ Dr (c + 1) o' ∧ (h.set n o')[n]? = some o' := by
  obtain ⟨d, o', a, b, e⟩ := spec_next hn g hc
  refine ⟨d, o', a, b, e, ?_⟩
  rw [List.getElem?_set_self (List.getElem?_eq_some_iff.mp hn).1]
end W

set_option Elab.async false
set_option linter.all false
set_option maxRecDepth 100000
set_option maxHeartbeats 4000000
namespace W
open PySem L2 Mr
/-! ### texts of signs -/
def sgs (l : List Nat) : List Val := l.map fun c => sV [c]
theorem strV_sS (l : List Nat) : strV (sS l) = sgs l := rfl
theorem joinL_nil : ∀ l : List Nat, TL.joinL [] (l.map fun c => [c]) = l
  | [] => rfl
  | [c] => rfl
  | c :: d :: l => by
    have e := joinL_nil (d :: l)
    rw [List.map_cons] at e
    rw [List.map_cons, List.map_cons]
    show [c] ++ ([] ++ TL.joinL [] ([d] :: l.map fun c => [c])) = _
    rw [e]
    rfl
theorem join_signs (l : List Nat) : Txt.join (sS []) (l.map fun c => sS [c]) = sS l := TL.ext_tl (by
  have e : (l.map fun c => sS [c]) = (l.map fun c => [c]).map sS := by rw [List.map_map]; rfl
  rw [TL.join_eq, TL.tl_join, e, map_sS_tl]
  exact joinL_nil l)
theorem strsOf_sgs : ∀ l : List Nat, strsOf (sgs l) = some (l.map fun c => sS [c])
  | [] => rfl
  | c :: l => by
    have e := strsOf_sgs l
    unfold sgs at e ⊢
    rw [List.map_cons, List.map_cons, strsOf, e]
    rfl
theorem sum_ones : ∀ l : List Nat, ((l.map fun c => sS [c]).map (·.length)).sum = l.length
  | [] => rfl
  | c :: l => by
    have e := sum_ones l
    rw [List.map_cons, List.map_cons, List.sum_cons, e, List.length_cons]
    show 1 + l.length = l.length + 1
    omega
theorem fJoin_sgs (l : List Nat) (hl : l.length ≤ 10000) (h : AH) : fJoin (.str "") [.fl (sgs l)] h = some (sV l) := by
  have j : joinOk (("" : String) : Str) (l.map fun c => sS [c]) = true := by
    refine decide_eq_true ?_
    rw [sum_ones]
    show l.length + (l.map fun c => sS [c]).length * 0 ≤ 16777216
    omega
  unfold fJoin
  show (match strsOf (sgs l) with
      | some ys => if joinOk (("" : String) : Str) ys then some (Val.str (Txt.join (("" : String) : Str) ys)) else none
      | none => none) = _
  rw [strsOf_sgs]
  show (if joinOk (("" : String) : Str) (l.map fun c => sS [c]) then some (Val.str (Txt.join (("" : String) : Str) (l.map fun c => sS [c]))) else none) = _
  rw [if_pos j, s_nil, join_signs]
theorem plains_sgs (l : List Nat) : plains (sgs l) = true := plains_map _ _ fun _ => plain_str _
theorem plains_sV (ls : List (List Nat)) : plains (ls.map sV) = true := plains_map _ _ fun _ => plain_str _
/-- of the letters a, b, c -/
def abc (l : List Nat) : Prop := ∀ x ∈ l, 97 ≤ x ∧ x ≤ 99
theorem sign5 (d : Int) (h0 : 0 ≤ d) (h1 : d < 5) : ∃ c : Nat, 97 ≤ c ∧ c ≤ 99 ∧ ix1 (L2.atI (("abcab" : String) : Str).cps.toList d) (Mr.sizeOk (("abcab" : String) : Str).length) = some (sV [c]) := by
  have : d = 0 ∨ d = 1 ∨ d = 2 ∨ d = 3 ∨ d = 4 := by omega
  rcases this with e | e | e | e | e <;> subst e
  · exact ⟨97, by omega, by omega, by kernel_rfl⟩
  · exact ⟨98, by omega, by omega, by kernel_rfl⟩
  · exact ⟨99, by omega, by omega, by kernel_rfl⟩
  · exact ⟨97, by omega, by omega, by kernel_rfl⟩
  · exact ⟨98, by omega, by omega, by kernel_rfl⟩
theorem sign3 (d : Int) (h0 : 0 ≤ d) (h1 : d < 3) : ix1 (L2.atI (("abc" : String) : Str).cps.toList d) (Mr.sizeOk (("abc" : String) : Str).length) = some (sV [97 + d.toNat]) := by
  have : d = 0 ∨ d = 1 ∨ d = 2 := by omega
  rcases this with e | e | e <;> subst e <;> kernel_rfl
theorem t5 : decide ((0 : Int) < 5) = true := rfl
theorem st_loop (x1 : Option Val) : ∀ (vs : List Val) (acc : List Nat) (c : Nat) (o : AO), Dr c o → c + vs.length ≤ 100000 → acc.length + vs.length ≤ 1000 → abc acc → ∃ (l : List Nat) (o' : AO),
    lcV (.nm 2) mYes (mOp oIx (mC (.str "abcab")) (mOp oMod (mCall cInt (mCons (mF (mCallM 0 m__law_next [] (mCons (mVar 0) (mNil)))) (mNil))) (mC (.int 5)))) [some (.ref 0), x1, none] vs (sgs acc) [o] = .ok (sgs l) [o'] ∧ l.length = acc.length + vs.length ∧ abc l ∧ Dr (c + vs.length) o'
  | [], acc, c, o, g, _, _, ha => ⟨acc, o, rfl, rfl, ha, g⟩
  | v :: vs, acc, c, o, g, hc, hl, ha => by
    rw [List.length_cons] at hc hl
    obtain ⟨d, o2, d0, e2, g2⟩ := spec_next (h := [o]) (n := 0) rfl g (by omega)
    simp only [List.set_cons_zero] at e2
    obtain ⟨s, s0, s1, es⟩ := sign5 (d % 5) (Int.emod_nonneg _ (by decide)) (Int.emod_lt_of_pos _ (by decide))
    have ha2 : abc (acc ++ [s]) := fun x hx => by
      rcases List.mem_append.mp hx with z | z
      · exact ha x z
      · rw [List.mem_singleton.mp z]; exact ⟨s0, s1⟩
    obtain ⟨l, o', f, f1, f2, f3⟩ := st_loop x1 vs (acc ++ [s]) (c + 1) o2 g2 (by omega) (by rw [List.length_append, List.length_singleton]; omega) ha2
    refine ⟨l, o', ?_, by rw [f1, List.length_append, List.length_singleton, List.length_cons]; omega, f2, dr_mono f3 (by rw [List.length_cons]; omega)⟩
    have em : sgs (acc ++ [s]) = sgs acc ++ [sV [s]] := by unfold sgs; rw [List.map_append]; rfl
    rw [← f, em]
    refine lcV_yes (s1 := [some (.ref 0), x1, some v]) (h1 := [o]) (by simp -implicitDefEqProofs only [RR, sz0, sz1, sz2, sz3, wipeM, List.set_cons_succ, List.set_cons_zero, List.getElem?_cons_succ, List.getElem?_cons_zero, ↓reduceIte, Bool.false_eq_true, List.length_cons, List.length_nil, Nat.zero_add, Nat.reduceAdd, beq_self_eq_true, Bool.not_true, Bool.not_false, List.cons_append, List.nil_append, List.append_nil, decide_true, decide_false, Bool.true_and, Bool.and_true, ]) rfl ?_ (by unfold sgs; rw [List.length_map]; omega)
    simp -implicitDefEqProofs only [RR, sz0, sz1, sz2, sz3, wipeM, List.set_cons_succ, List.set_cons_zero, List.getElem?_cons_succ, List.getElem?_cons_zero, ↓reduceIte, Bool.false_eq_true, List.length_cons, List.length_nil, Nat.zero_add, Nat.reduceAdd, beq_self_eq_true, Bool.not_true, Bool.not_false, List.cons_append, List.nil_append, List.append_nil, decide_true, decide_false, Bool.true_and, Bool.and_true, e2, t5, oIx_str, es]
theorem rng_len (n : Nat) : (rngV 0 n).length = n := by unfold rngV; rw [List.length_map, List.length_range]
theorem spec_string {h : AH} {n c : Nat} {o : AO} (m : Nat) (hm : m ≤ 100) (hn : h[n]? = some o) (g : Dr c o) (hc : c ≤ 50000) :
    ∃ (l : List Nat) (o' : AO), l.length ≤ m ∧ abc l ∧ mutN 0 m__law_string [.ref n, .int (m : Int)] h = .ok (.v (sV l)) (h.set n o') ∧ Dr (c + 101) o' := by
  obtain ⟨d, o2, d0, e2, g2⟩ := spec_next (h := [o]) (n := 0) rfl g (by omega)
  simp only [List.set_cons_zero] at e2
  have k0 : 0 ≤ d % ((m : Int) + 1) := Int.emod_nonneg _ (by omega)
  have k1 : d % ((m : Int) + 1) < (m : Int) + 1 := Int.emod_lt_of_pos _ (by omega)
  generalize hk : d % ((m : Int) + 1) = k at k0 k1
  obtain ⟨l, o', f, f1, f2, f3⟩ := st_loop (some (.int (m : Int))) (rngV 0 k.toNat) [] (c + 1) o2 g2 (by rw [rng_len]; omega) (by rw [rng_len, List.length_nil]; omega) (fun x hx => by cases hx)
  rw [rng_len] at f3
  rw [rng_len, List.length_nil] at f1
  refine ⟨l, o', by omega, f2, ?_, dr_mono f3 (by omega)⟩
  refine mut_of (o := o) (o' := o') (h2 := [o']) rfl (by simp) hn (dr_plain g) ?_ (plain_str _) rfl (dr_plain f3)
  show m__law_string [.ref 0, .int (m : Int)] [o] = _
  rw [a__law_string]
  unfold b__law_string
  have t : decide ((0 : Int) < (m : Int) + 1) = true := decide_eq_true (by omega)
  have ro : rngOk k = true := rng_ok (by omega) (by omega)
  have lc : mLc (mRng1 (mCons (mOp oMod (mCall cInt (mCons (mF (mCallM 0 m__law_next [] (mCons (mVar 0) (mNil)))) (mNil))) (mF (mOpN oAdd (mVar 1) (mC (.int 1))))) (mNil))) (.nm 2) (mYes) (mOp oIx (mC (.str "abcab")) (mOp oMod (mCall cInt (mCons (mF (mCallM 0 m__law_next [] (mCons (mVar 0) (mNil)))) (mNil))) (mC (.int 5)))) [2] [some (.ref 0), some (.int (m : Int)), none] [o] = .ok (.n (sgs l)) [o'] := by
    have f' := f
    rw [show sgs ([] : List Nat) = [] from rfl] at f'
    rw [mLc_app]
    simp -implicitDefEqProofs only [RR, sz0, sz1, sz2, sz3, wipeM, List.set_cons_succ, List.set_cons_zero, List.getElem?_cons_succ, List.getElem?_cons_zero, ↓reduceIte, Bool.false_eq_true, List.length_cons, List.length_nil, Nat.zero_add, Nat.reduceAdd, beq_self_eq_true, Bool.not_true, Bool.not_false, List.cons_append, List.nil_append, List.append_nil, decide_true, decide_false, Bool.true_and, Bool.and_true, e2, t, hk, ro, f']
  simp -implicitDefEqProofs only [RR, sz0, sz1, sz2, sz3, wipeM, List.set_cons_succ, List.set_cons_zero, List.getElem?_cons_succ, List.getElem?_cons_zero, ↓reduceIte, Bool.false_eq_true, List.length_cons, List.length_nil, Nat.zero_add, Nat.reduceAdd, beq_self_eq_true, Bool.not_true, Bool.not_false, List.cons_append, List.nil_append, List.append_nil, decide_true, decide_false, Bool.true_and, Bool.and_true, lc, NVF_n (plains_sgs l), fJoin_sgs l (by omega)]
/-! ### a book -/
def letters (l : List Nat) : Prop := ∀ x ∈ l, 97 ≤ x ∧ x ≤ 122
structure Bk (L : List (List Nat)) : Prop where
  ne : L ≠ []
  len : L.length ≤ 3
  each : ∀ l ∈ L, 1 ≤ l.length ∧ l.length ≤ 6 ∧ letters l
  up : L.Pairwise (· < ·)
/-- the names drawn: with unlike last letters -/
theorem bk_loop (x1 : Option Val) : ∀ (k : Nat) (j : Nat) (acc : List (List Nat)) (c : Nat) (o : AO), Dr c o → c + 200 * k ≤ 50000 → j + k ≤ 3 → acc.length = j → (∀ l ∈ acc, 1 ≤ l.length ∧ l.length ≤ 6 ∧ abc l ∧ ∃ i, i < j ∧ l.getLast? = some (97 + i)) → acc.Nodup → ∃ (L : List (List Nat)) (o' : AO),
    lcV (.nm 2) mYes (mF (mOpN oAdd (mF (mCallM 0 m__law_string [] (mCons (mVar 0) (mCons (mC (.int 5)) (mNil))))) (mOp oIx (mC (.str "abc")) (mVar 2)))) [some (.ref 0), x1, none] ((List.range k).map fun i => Val.int ((j + i : Nat) : Int)) (acc.map sV) [o] = .ok (L.map sV) [o'] ∧
      L.length = j + k ∧ (∀ l ∈ L, 1 ≤ l.length ∧ l.length ≤ 6 ∧ abc l) ∧ L.Nodup ∧ Dr (c + 200 * k) o'
  | 0, j, acc, c, o, g, _, _, hj, ha, nd => ⟨acc, o, rfl, by omega, fun l hl => ⟨(ha l hl).1, (ha l hl).2.1, (ha l hl).2.2.1⟩, nd, g⟩
  | k + 1, j, acc, c, o, g, hc, hk, hj, ha, nd => by
    obtain ⟨l, o2, l1, l2, e2, g2⟩ := spec_string (h := [o]) (n := 0) 5 (by omega) rfl g (by omega)
    simp only [List.set_cons_zero] at e2
    have e2' : mutN 0 m__law_string [.ref 0, .int 5] [o] = .ok (.v (sV l)) [o2] := e2
    have s3 := sign3 (j : Int) (by omega) (by omega)
    rw [show ((j : Int)).toNat = j by omega] at s3
    have last : (l ++ [97 + j]).getLast? = some (97 + j) := by rw [List.getLast?_append]; rfl
    have new : (l ++ [97 + j]) ∉ acc := fun z => by
      obtain ⟨_, _, _, i, hi, e⟩ := ha _ z
      rw [last] at e
      have := Option.some.inj e
      omega
    have ha2 : ∀ m ∈ acc ++ [l ++ [97 + j]], 1 ≤ m.length ∧ m.length ≤ 6 ∧ abc m ∧ ∃ i, i < j + 1 ∧ m.getLast? = some (97 + i) := fun m hm => by
      rcases List.mem_append.mp hm with z | z
      · obtain ⟨a, b, d, i, hi, e⟩ := ha m z
        exact ⟨a, b, d, i, by omega, e⟩
      · rw [List.mem_singleton.mp z]
        refine ⟨by rw [List.length_append]; simp, by rw [List.length_append]; simp; omega, fun x hx => ?_, j, by omega, last⟩
        rcases List.mem_append.mp hx with y | y
        · exact l2 x y
        · rw [List.mem_singleton.mp y]; omega
    obtain ⟨L, o', f, f1, f2, f3, f4⟩ := bk_loop x1 k (j + 1) (acc ++ [l ++ [97 + j]]) (c + 101) o2 g2 (by omega) (by omega) (by rw [List.length_append, hj]; rfl) ha2 (by
      rw [List.nodup_append]
      refine ⟨nd, by simp, fun a ha b hb e => ?_⟩
      rw [List.mem_singleton.mp hb] at e
      subst e
      exact new ha)
    refine ⟨L, o', ?_, by omega, f2, f3, dr_mono f4 (by omega)⟩
    rw [List.range_succ_eq_map, List.map_cons, List.map_map]
    have er : (List.range k).map (fun i => Val.int (((j + 1) + i : Nat) : Int)) = (List.range k).map ((fun i => Val.int ((j + i : Nat) : Int)) ∘ Nat.succ) := List.map_congr_left fun i _ => by
      show Val.int (((j + 1) + i : Nat) : Int) = Val.int ((j + (i + 1) : Nat) : Int)
      rw [show j + 1 + i = j + (i + 1) by omega]
    rw [← er, Nat.add_zero]
    have em : (acc ++ [l ++ [97 + j]]).map sV = acc.map sV ++ [sV (l ++ [97 + j])] := by rw [List.map_append]; rfl
    rw [em] at f
    rw [← f]
    refine lcV_yes (s1 := [some (.ref 0), x1, some (.int (j : Int))]) (h1 := [o]) (by simp -implicitDefEqProofs only [RR, sz0, sz1, sz2, sz3, wipeM, List.set_cons_succ, List.set_cons_zero, List.getElem?_cons_succ, List.getElem?_cons_zero, ↓reduceIte, Bool.false_eq_true, List.length_cons, List.length_nil, Nat.zero_add, Nat.reduceAdd, beq_self_eq_true, Bool.not_true, Bool.not_false, List.cons_append, List.nil_append, List.append_nil, decide_true, decide_false, Bool.true_and, Bool.and_true, ]) rfl ?_ (by rw [List.length_map]; omega)
    have s1 := sz (n := l.length + 1) (by omega)
    simp -implicitDefEqProofs only [RR, sz0, sz1, sz2, sz3, wipeM, List.set_cons_succ, List.set_cons_zero, List.getElem?_cons_succ, List.getElem?_cons_zero, ↓reduceIte, Bool.false_eq_true, List.length_cons, List.length_nil, Nat.zero_add, Nat.reduceAdd, beq_self_eq_true, Bool.not_true, Bool.not_false, List.cons_append, List.nil_append, List.append_nil, decide_true, decide_false, Bool.true_and, Bool.and_true, e2', oIx_str, s3, sS_app, sS_len, s1, NVF_v]
theorem sS_list (l : List Nat) : (sS l).cps.toList = l := rfl
theorem kysOf_sV : ∀ L : List (List Nat), kysOf (L.map sV) = some (L.map fun l => Sum.inr (sS l))
  | [] => rfl
  | l :: L => by
    have e := kysOf_sV L
    rw [List.map_cons, List.map_cons]
    show (kysOf (L.map sV)).map (Sum.inr (sS l) :: ·) = _
    rw [e]
    rfl
theorem meet_nodup : ∀ ks : List Key, ks.Nodup → meet ks = ks := fun ks h => by
  rcases List.eq_nil_or_concat ks with e | ⟨q, k, e⟩
  · subst e; rfl
  · rw [List.concat_eq_append] at e
    have lt : q.length < ks.length := by rw [e, List.length_append, List.length_singleton]; omega
    rw [e, List.nodup_append] at h
    obtain ⟨h1, h2, h3⟩ := h
    have ih := meet_nodup q h1
    rw [e, meet_snoc, ih, if_neg]
    intro z
    exact h3 k (hasK_iff.mp z) k (List.mem_singleton.mpr rfl) rfl
termination_by ks => ks.length
theorem nodup_map' {α β : Type} {f : α → β} (hf : ∀ a b, f a = f b → a = b) : ∀ {l : List α}, l.Nodup → (l.map f).Nodup
  | [], _ => by simp
  | a :: l, h => by
    rw [List.nodup_cons] at h
    rw [List.map_cons, List.nodup_cons]
    refine ⟨fun z => ?_, nodup_map' hf h.2⟩
    obtain ⟨b, hb, e⟩ := List.mem_map.mp z
    exact h.1 (hf _ _ e ▸ hb)
theorem sort_book {L : List (List Nat)} (nd : L.Nodup) (hl : L.length ≤ 4000) (hp : AH) : ∃ M : List (List Nat), cSortSet [.fl (L.map sV)] hp = some (.n (M.map sV)) ∧ M.Perm L ∧ M.Pairwise (· < ·) := by
  have inj : ∀ a b : List Nat, (Sum.inr (sS a) : Key) = Sum.inr (sS b) → a = b := fun a b e => sS_inj (Sum.inr.inj e)
  have ek : lstKys hp (.fl (L.map sV)) = some (L.map fun l => Sum.inr (sS l)) := kysOf_sV L
  have nk : (L.map fun l => (Sum.inr (sS l) : Key)).Nodup := nodup_map' (fun a b e => inj a b e) nd
  have lk : (likeK (L.map fun l => (Sum.inr (sS l) : Key)) && decide ((L.map fun l => (Sum.inr (sS l) : Key)).length ≤ 4000)) = true := by
    rw [Bool.and_eq_true]
    refine ⟨?_, decide_eq_true (by rw [List.length_map]; exact hl)⟩
    unfold likeK
    rw [Bool.or_eq_true]
    right
    rw [List.all_map]
    exact List.all_eq_true.mpr fun _ _ => rfl
  have e1 : (L.map fun l => (Sum.inr (sS l) : Key)) = (L.map sS).map Sum.inr := by rw [List.map_map]; rfl
  have e2 : sortK (meet (L.map fun l => (Sum.inr (sS l) : Key))) = ((L.map sS).mergeSort leS).map Sum.inr := by rw [meet_nodup _ nk, e1, sortK_strs]
  have pm : ((L.map sS).mergeSort leS).Perm (L.map sS) := List.mergeSort_perm _ _
  refine ⟨((L.map sS).mergeSort leS).map fun z => z.cps.toList, ?_, ?_, ?_⟩
  · unfold cSortSet
    dsimp only
    rw [ek]
    dsimp only
    rw [if_pos lk, e2, List.map_map, List.map_map]
    congr 2
  · have := pm.map fun z : Str => z.cps.toList
    rw [List.map_map] at this
    have e3 : L.map ((fun z : Str => z.cps.toList) ∘ sS) = L := by
      conv => rhs; rw [← List.map_id L]
      exact List.map_congr_left fun l _ => sS_list l
    rw [e3] at this
    exact this
  · have s1 := PySem.W.sort_pairwise totS (L.map sS)
    have n1 : ((L.map sS).mergeSort leS).Nodup := (pm.nodup_iff).mpr (nodup_map' (fun a b e => sS_inj e) nd)
    rw [List.pairwise_map]
    have both := s1.and n1
    refine both.imp fun {a b} h => ?_
    obtain ⟨h1, h2⟩ := h
    have h3 : a.cps.toList ≤ b.cps.toList := of_decide_eq_true h1
    by_cases z : a.cps.toList < b.cps.toList
    · exact z
    · have z2 := List.le_antisymm h3 (List.not_lt.mp z)
      exact absurd (by cases a; cases b; exact congrArg _ (Array.toList_inj.mp z2)) h2
theorem spec_book {h : AH} {n c : Nat} {o : AO} (hn : h[n]? = some o) (g : Dr c o) (hc : c ≤ 40000) :
    ∃ (L : List (List Nat)) (o' : AO), Bk L ∧ mutN 0 m__law_book [.ref n] h = .ok (.v (.fl (L.map sV))) (h.set n o') ∧ Dr (c + 601) o' := by
  obtain ⟨d, o2, d0, e2, g2⟩ := spec_next (h := [o]) (n := 0) rfl g (by omega)
  simp only [List.set_cons_zero] at e2
  have k0 : 0 ≤ d % 3 := Int.emod_nonneg _ (by omega)
  have k1 : d % 3 < 3 := Int.emod_lt_of_pos _ (by omega)
  generalize hk : d % 3 = k at k0 k1
  obtain ⟨L, o', f, f1, f2, f3, f4⟩ := bk_loop none (1 + k).toNat 0 [] (c + 1) o2 g2 (by omega) (by omega) rfl (fun l hl => by cases hl) (by simp)
  have er : (List.range (1 + k).toNat).map (fun i => Val.int ((0 + i : Nat) : Int)) = rngV 0 (1 + k).toNat := by
    unfold rngV
    refine List.map_congr_left fun i _ => ?_
    rw [Nat.zero_add, Int.zero_add]
  rw [er, List.map_nil] at f
  obtain ⟨M, s1, s2, s3⟩ := sort_book f3 (by omega) [o']
  have ml : M.length = L.length := s2.length_eq
  refine ⟨M, o', ⟨fun z => ?_, by omega, fun l hl => ?_, s3⟩, ?_, dr_mono f4 (by omega)⟩
  · rw [z] at ml
    simp at ml
    omega
  · obtain ⟨a, b, q⟩ := f2 l (s2.mem_iff.mp hl)
    exact ⟨a, b, fun x hx => by have := q x hx; omega⟩
  · refine mut_lst (o := o) (o' := o') (k := 1) (h2 := [o', .lst (M.map sV)]) (ys := M.map sV) rfl (by simp) hn (dr_plain g) ?_ rfl (plains_sV M) (by decide) rfl (dr_plain f4)
    show m__law_book [.ref 0] [o] = _
    rw [a__law_book]
    unfold b__law_book
    have t : decide ((0 : Int) < 3) = true := rfl
    have ro : rngOk (1 + k) = true := rng_ok (by omega) (by omega)
    have lc : mLc (mRng1 (mCons (mF (mOpN oAdd (mC (.int 1)) (mOp oMod (mCall cInt (mCons (mF (mCallM 0 m__law_next [] (mCons (mVar 0) (mNil)))) (mNil))) (mC (.int 3))))) (mNil))) (.nm 2) (mYes) (mF (mOpN oAdd (mF (mCallM 0 m__law_string [] (mCons (mVar 0) (mCons (mC (.int 5)) (mNil))))) (mOp oIx (mC (.str "abc")) (mVar 2)))) [2] [some (.ref 0), none, none] [o] = .ok (.n (L.map sV)) [o'] := by
      rw [mLc_app]
      simp -implicitDefEqProofs only [RR, sz0, sz1, sz2, sz3, wipeM, List.set_cons_succ, List.set_cons_zero, List.getElem?_cons_succ, List.getElem?_cons_zero, ↓reduceIte, Bool.false_eq_true, List.length_cons, List.length_nil, Nat.zero_add, Nat.reduceAdd, beq_self_eq_true, Bool.not_true, Bool.not_false, List.cons_append, List.nil_append, List.append_nil, decide_true, decide_false, Bool.true_and, Bool.and_true, e2, t, hk, ro, f]
    simp -implicitDefEqProofs only [RR, sz0, sz1, sz2, sz3, wipeM, List.set_cons_succ, List.set_cons_zero, List.getElem?_cons_succ, List.getElem?_cons_zero, ↓reduceIte, Bool.false_eq_true, List.length_cons, List.length_nil, Nat.zero_add, Nat.reduceAdd, beq_self_eq_true, Bool.not_true, Bool.not_false, List.cons_append, List.nil_append, List.append_nil, decide_true, decide_false, Bool.true_and, Bool.and_true, lc, NVF_n (plains_sV L), s1, NVT_n]
end W

set_option Elab.async false
set_option linter.all false
set_option maxRecDepth 100000
set_option maxHeartbeats 4000000
namespace W
open PySem L2 Mr
/-! ### the program's rows -/
theorem sp_nil_right (a : List Nat) : sp a [] = a.length := by cases a <;> (rw [sp]; try rfl)
theorem sp_nil_left (b : List Nat) : sp [] b = b.length := by rw [sp]
/-- the row of a name beside r (turned about) -/
def pre (name r : List Nat) (k : Nat) : List Nat := (List.range k).map fun i => sp (name.take i).reverse r
def rowS (name r : List Nat) : List Nat := pre name r (name.length + 1)
theorem pre_len (name r : List Nat) (k : Nat) : (pre name r k).length = k := by unfold pre; rw [List.length_map, List.length_range]
theorem pre_at (name r : List Nat) {k i : Nat} (h : i < k) : (rgN (pre name r k))[i]? = some (.int ((sp (name.take i).reverse r : Nat) : Int)) := by
  unfold rgN pre
  rw [List.getElem?_map, List.getElem?_map, List.getElem?_range h]
  rfl
theorem pre_atI (name r : List Nat) {k i : Nat} (h : i < k) : L2.atI (rgN (pre name r k)) (i : Int) = some (.int ((sp (name.take i).reverse r : Nat) : Int)) := by rw [atI_nat', pre_at name r h]
theorem pre_snoc' (name r : List Nat) (k : Nat) : rgN (pre name r (k + 1)) = rgN (pre name r k) ++ [.int ((sp (name.take k).reverse r : Nat) : Int)] := by
  unfold rgN pre
  rw [List.range_succ, List.map_append, List.map_append]
  rfl
def lastV : List Nat → Val
  | [] => .non
  | y :: _ => sV [y]
def befV (name r : List Nat) : Val := match r with
  | [] => .tup []
  | _ :: r => .tup (rgN (rowS name r))
def rowsV (name r : List Nat) : Val := .tup [befV name r, .tup (rgN (rowS name r))]
theorem plain_last (r : List Nat) : plain (lastV r) = true := by cases r <;> simp [lastV]
theorem plain_rows (name r : List Nat) : plain (rowsV name r) = true := by
  unfold rowsV befV
  cases r <;> simp [plains_rgN]
theorem rev_take {name : List Nat} {j : Nat} {x : Nat} (h : name[j]? = some x) : (name.take (j + 1)).reverse = x :: (name.take j).reverse := by rw [take_snoc h, List.reverse_append]; rfl
theorem atI_str {name : List Nat} {j : Nat} {x : Nat} (h : name[j]? = some x) (hl : name.length ≤ 1000) : ix1 (L2.atI name (j : Int)) (Mr.sizeOk name.length) = some (sV [x]) := by
  rw [atI_nat', h, sz (by omega)]
  rfl
theorem sgeq (x y : Nat) : (sS [x] = sS [y]) = (x = y) := by rw [sS_eq]; exact propext ⟨fun e => (List.cons.inj e).1, fun e => by rw [e]⟩
theorem ne_non (y : Nat) (h : AH) : oNe .non (sV [y]) h = some (.bl true) := rfl
theorem eq_non (x : Nat) (h : AH) : oEq (sV [x]) .non h = some (.bl false) := rfl
theorem cMin3_int (i j k : Int) (h : AH) : cMin3 [.int i, .int j, .int k] h = some (.int (if j < i then (if k < j then k else j) else (if k < i then k else i))) := rfl
/-- may two letters be swapped here -/
def swp (x y : Nat) (a r : List Nat) : Bool := decide (a.head? = some y ∧ r.head? = some x ∧ x ≠ y)
theorem sp_step (x y : Nat) (a r : List Nat) : sp (x :: a) (y :: r) = (if swp x y a r = true then min (min (min (sp a (y :: r)) (sp (x :: a) r) + 1) (sp a r + ne1 x y)) (sp a.tail r.tail + 1) else min (min (sp a (y :: r)) (sp (x :: a) r) + 1) (sp a r + ne1 x y)) := by
  rw [sp]
  unfold swp
  by_cases c : a.head? = some y ∧ r.head? = some x ∧ x ≠ y
  · rw [if_pos c, if_pos (decide_eq_true c)]
  · rw [if_neg c, if_neg (by simpa using c)]
section
variable (name r : List Nat) (y : Nat)
/-- the slots of slipped -/
def slS (name r : List Nat) (y : Nat) (v5 v8 : Option Val) : Sl := [some (sV name), some (rowsV name r), some (lastV r), some (sV [y]), some (.ref 0), v5, some (befV name r), some (.tup (rgN (rowS name r))), v8]
theorem cond_eq (hl : name.length ≤ 1000) (j : Nat) (x : Nat) (hx : name[j]? = some x) (v8 : Option Val) (h : AH) :
    mAnd (mTest (mOp oGt (mVar 5) (mC (.int 1)))) (mAnd (mTest (mOp oNe (mVar 2) (mVar 3))) (mAnd (mTest (mOp oEq (mOp oIx (mVar 0) (mOp oSub (mVar 5) (mC (.int 2)))) (mVar 3))) (mTest (mOp oEq (mOp oIx (mVar 0) (mOp oSub (mVar 5) (mC (.int 1)))) (mVar 2)))))
      (slS name r y (some (.int ((j + 1 : Nat) : Int))) v8) h = .ok (swp x y (name.take j).reverse r) h := by
  unfold slS
  have e1 : ((j + 1 : Nat) : Int) - 1 = (j : Int) := by omega
  have ix := atI_str hx hl
  cases j with
  | zero =>
    have e : swp x y (name.take 0).reverse r = false := by unfold swp; exact decide_eq_false fun c => by cases c.1
    rw [e]
    have g : decide ((1 : Int) < ((0 + 1 : Nat) : Int)) = false := rfl
    simp -implicitDefEqProofs only [RR, sz0, sz1, sz2, sz3, wipeM, List.set_cons_succ, List.set_cons_zero, List.getElem?_cons_succ, List.getElem?_cons_zero, ↓reduceIte, Bool.false_eq_true, List.length_cons, List.length_nil, Nat.zero_add, Nat.reduceAdd, beq_self_eq_true, Bool.not_true, Bool.not_false, List.cons_append, List.nil_append, List.append_nil, decide_true, decide_false, Bool.true_and, Bool.and_true, oGt_int, g]
  | succ j =>
    have hj : j < name.length := by have := (List.getElem?_eq_some_iff.mp hx).1; omega
    obtain ⟨z, hz⟩ : ∃ z, name[j]? = some z := ⟨name[j], List.getElem?_eq_getElem hj⟩
    have e2 : ((j + 1 + 1 : Nat) : Int) - 2 = (j : Int) := by omega
    have iz := atI_str hz hl
    have g : decide ((1 : Int) < ((j + 1 + 1 : Nat) : Int)) = true := decide_eq_true (by omega)
    have ea : (name.take (j + 1)).reverse = z :: (name.take j).reverse := rev_take hz
    cases r with
    | nil =>
      have e : swp x y (name.take (j + 1)).reverse [] = false := by unfold swp; exact decide_eq_false fun c => by cases c.2.1
      rw [e]
      by_cases c : z = y
      · have c' : decide (z = y) = true := decide_eq_true c
        simp -implicitDefEqProofs only [RR, sz0, sz1, sz2, sz3, wipeM, List.set_cons_succ, List.set_cons_zero, List.getElem?_cons_succ, List.getElem?_cons_zero, ↓reduceIte, Bool.false_eq_true, List.length_cons, List.length_nil, Nat.zero_add, Nat.reduceAdd, beq_self_eq_true, Bool.not_true, Bool.not_false, List.cons_append, List.nil_append, List.append_nil, decide_true, decide_false, Bool.true_and, Bool.and_true, oGt_int, g, lastV, ne_non, sgeq, eq_non, oSub_int, oIx_str, e1, e2, ix, iz, c']
      · have c' : decide (z = y) = false := decide_eq_false c
        simp -implicitDefEqProofs only [RR, sz0, sz1, sz2, sz3, wipeM, List.set_cons_succ, List.set_cons_zero, List.getElem?_cons_succ, List.getElem?_cons_zero, ↓reduceIte, Bool.false_eq_true, List.length_cons, List.length_nil, Nat.zero_add, Nat.reduceAdd, beq_self_eq_true, Bool.not_true, Bool.not_false, List.cons_append, List.nil_append, List.append_nil, decide_true, decide_false, Bool.true_and, Bool.and_true, oGt_int, g, lastV, ne_non, sgeq, eq_non, oSub_int, oIx_str, e1, e2, ix, iz, c']
    | cons w r =>
      by_cases q : w = y
      · have q' : decide (w = y) = true := decide_eq_true q
        have e : swp x y (name.take (j + 1)).reverse (w :: r) = false := by
          unfold swp
          exact decide_eq_false fun c => c.2.2 (by
            have := Option.some.inj c.2.1
            rw [← this]; exact q)
        rw [e]
        simp -implicitDefEqProofs only [RR, sz0, sz1, sz2, sz3, wipeM, List.set_cons_succ, List.set_cons_zero, List.getElem?_cons_succ, List.getElem?_cons_zero, ↓reduceIte, Bool.false_eq_true, List.length_cons, List.length_nil, Nat.zero_add, Nat.reduceAdd, beq_self_eq_true, Bool.not_true, Bool.not_false, List.cons_append, List.nil_append, List.append_nil, decide_true, decide_false, Bool.true_and, Bool.and_true, oGt_int, g, lastV, sgeq, q']
      · have q' : decide (w = y) = false := decide_eq_false q
        by_cases c : z = y
        · have c' : decide (z = y) = true := decide_eq_true c
          by_cases d : x = w
          · have d' : decide (x = w) = true := decide_eq_true d
            have e : swp x y (name.take (j + 1)).reverse (w :: r) = true := by
              unfold swp
              rw [ea]
              exact decide_eq_true ⟨by rw [List.head?_cons, c], by rw [List.head?_cons, d], by rw [d]; exact q⟩
            rw [e]
            simp -implicitDefEqProofs only [RR, sz0, sz1, sz2, sz3, wipeM, List.set_cons_succ, List.set_cons_zero, List.getElem?_cons_succ, List.getElem?_cons_zero, ↓reduceIte, Bool.false_eq_true, List.length_cons, List.length_nil, Nat.zero_add, Nat.reduceAdd, beq_self_eq_true, Bool.not_true, Bool.not_false, List.cons_append, List.nil_append, List.append_nil, decide_true, decide_false, Bool.true_and, Bool.and_true, oGt_int, g, lastV, sgeq, q', sgeq, oSub_int, oIx_str, e1, e2, ix, iz, c', d']
          · have d' : decide (x = w) = false := decide_eq_false d
            have e : swp x y (name.take (j + 1)).reverse (w :: r) = false := by
              unfold swp
              exact decide_eq_false fun c => d (Option.some.inj c.2.1).symm
            rw [e]
            simp -implicitDefEqProofs only [RR, sz0, sz1, sz2, sz3, wipeM, List.set_cons_succ, List.set_cons_zero, List.getElem?_cons_succ, List.getElem?_cons_zero, ↓reduceIte, Bool.false_eq_true, List.length_cons, List.length_nil, Nat.zero_add, Nat.reduceAdd, beq_self_eq_true, Bool.not_true, Bool.not_false, List.cons_append, List.nil_append, List.append_nil, decide_true, decide_false, Bool.true_and, Bool.and_true, oGt_int, g, lastV, sgeq, q', sgeq, oSub_int, oIx_str, e1, e2, ix, iz, c', d']
        · have c' : decide (z = y) = false := decide_eq_false c
          have e : swp x y (name.take (j + 1)).reverse (w :: r) = false := by
            unfold swp
            rw [ea]
            exact decide_eq_false fun d => c (Option.some.inj d.1)
          rw [e]
          simp -implicitDefEqProofs only [RR, sz0, sz1, sz2, sz3, wipeM, List.set_cons_succ, List.set_cons_zero, List.getElem?_cons_succ, List.getElem?_cons_zero, ↓reduceIte, Bool.false_eq_true, List.length_cons, List.length_nil, Nat.zero_add, Nat.reduceAdd, beq_self_eq_true, Bool.not_true, Bool.not_false, List.cons_append, List.nil_append, List.append_nil, decide_true, decide_false, Bool.true_and, Bool.and_true, oGt_int, g, lastV, sgeq, q', sgeq, oSub_int, oIx_str, e1, e2, ix, iz, c']
theorem row_loop (hl : name.length ≤ 1000) : ∀ (k j : Nat) (v5 v8 : Option Val), j + k = name.length → ∃ v5' v8', forV (.nm 5) l_slipped_0 ((List.range k).map fun i => .int ((j + 1 + i : Nat) : Int)) (slS name r y v5 v8) [.lst (rgN (pre name (y :: r) (j + 1)))] = some (.nx (slS name r y v5' v8'), [.lst (rgN (rowS name (y :: r)))])
  | 0, j, v5, v8, hj => ⟨v5, v8, by rw [show j = name.length by omega]; rfl⟩
  | k + 1, j, v5, v8, hj => by
    have hjl : j < name.length := by omega
    obtain ⟨x, hx⟩ : ∃ x, name[j]? = some x := ⟨name[j], List.getElem?_eq_getElem hjl⟩
    obtain ⟨v5', v8', f⟩ := row_loop hl k (j + 1) (some (.int ((j + 1 : Nat) : Int))) (some (.int ((sp (name.take (j + 1)).reverse (y :: r) : Nat) : Int))) (by omega)
    refine ⟨v5', v8', ?_⟩
    rw [← f, List.range_succ_eq_map, List.map_cons, List.map_map, forV_cons]
    have er : (List.range k).map (fun i => Val.int ((j + 1 + 1 + i : Nat) : Int)) = (List.range k).map ((fun i => Val.int ((j + 1 + i : Nat) : Int)) ∘ Nat.succ) := List.map_congr_left fun i _ => by
      show Val.int ((j + 1 + 1 + i : Nat) : Int) = Val.int ((j + 1 + (i + 1) : Nat) : Int)
      rw [show j + 1 + 1 + i = j + 1 + (i + 1) by omega]
    rw [er]
    have a1 : L2.atI (rgN (rowS name r)) ((j + 1 : Nat) : Int) = some (.int ((sp (name.take (j + 1)).reverse r : Nat) : Int)) := pre_atI name r (by omega)
    have a2 : L2.atI (rgN (rowS name r)) (j : Int) = some (.int ((sp (name.take j).reverse r : Nat) : Int)) := pre_atI name r (by omega)
    have a3 : L2.atI (rgN (pre name (y :: r) (j + 1))) (j : Int) = some (.int ((sp (name.take j).reverse (y :: r) : Nat) : Int)) := pre_atI name (y :: r) (by omega)
    have e1 : ((j + 1 : Nat) : Int) - 1 = (j : Int) := by omega
    have ix := atI_str hx hl
    have rt := rev_take hx
    have st := sp_step x y (name.take j).reverse r
    rw [← rt] at st
    have sn := pre_snoc' name (y :: r) (j + 1)
    have ll : (rgN (pre name (y :: r) (j + 1))).length + 1 = j + 2 := by rw [rgN_len, pre_len]
    have s2 := sz (n := j + 2) (by omega)
    have b2 : (if (!decide (x = y)) = true then (1 : Int) else 0) = ((ne1 x y : Nat) : Int) := by
      unfold ne1
      by_cases c : x = y
      · simp [c]
      · simp [c]
    have cnd := fun v8 h => cond_eq name r y hl j x hx v8 h
    rw [Nat.add_zero]
    have bd : Pat.bd (.nm 5) (.int ((j + 1 : Nat) : Int)) (slS name r y v5 v8) = some (slS name r y (some (.int ((j + 1 : Nat) : Int))) v8) := rfl
    rw [bd]
    dsimp only
    generalize hA : sp (name.take j).reverse (y :: r) = A at st a3
    generalize hB : sp (name.take (j + 1)).reverse r = B at st a1
    generalize hC : sp (name.take j).reverse r = C at st a2
    generalize hD : ((ne1 x y : Nat)) = D at st b2
    have first : ∀ v8 : Option Val, (mSet 8 (mCall cMin3 (mCons (mF (mOpN oAdd (mOp oIx (mVar 7) (mVar 5)) (mC (.int 1)))) (mCons (mF (mOpN oAdd (mOp oIx (mVar 4) (mOp oSub (mVar 5) (mC (.int 1)))) (mC (.int 1)))) (mCons (mF (mOpN oAdd (mOp oIx (mVar 7) (mOp oSub (mVar 5) (mC (.int 1)))) (mCall cInt (mCons (mOp oNe (mOp oIx (mVar 0) (mOp oSub (mVar 5) (mC (.int 1)))) (mVar 3)) (mNil))))) (mNil)))))) (slS name r y (some (.int ((j + 1 : Nat) : Int))) v8) [.lst (rgN (pre name (y :: r) (j + 1)))] = some (.nx (slS name r y (some (.int ((j + 1 : Nat) : Int))) (some (.int ((min (min A B + 1) (C + D) : Nat) : Int)))), [.lst (rgN (pre name (y :: r) (j + 1)))]) := fun v8 => by
      unfold slS
      have em : (if ((A : Int) + 1 < (B : Int) + 1) then (if (C : Int) + D < (A : Int) + 1 then (C : Int) + D else (A : Int) + 1) else (if (C : Int) + D < (B : Int) + 1 then (C : Int) + D else (B : Int) + 1)) = ((min (min A B + 1) (C + D) : Nat) : Int) := by
        split <;> split <;> omega
      simp -implicitDefEqProofs only [RR, sz0, sz1, sz2, sz3, wipeM, List.set_cons_succ, List.set_cons_zero, List.getElem?_cons_succ, List.getElem?_cons_zero, ↓reduceIte, Bool.false_eq_true, List.length_cons, List.length_nil, Nat.zero_add, Nat.reduceAdd, beq_self_eq_true, Bool.not_true, Bool.not_false, List.cons_append, List.nil_append, List.append_nil, decide_true, decide_false, Bool.true_and, Bool.and_true, a1, e1, a2, a3, ix, sgeq, b2, cMin3_int, oIx_tup, oIx_str, oIx_ref, lst_0, ixK_some, em]
    unfold l_slipped_0
    rw [mSeq_app, first, sqK_nx, mSeq_app, mIfS_app, cnd, sbK_ok]
    by_cases c : swp x y (name.take j).reverse r = true
    · rw [c, if_pos rfl]
      rw [c, if_pos rfl] at st
      have hj0 : 0 < j := by
        rcases Nat.eq_zero_or_pos j with z | z
        · subst z
          unfold swp at c
          have := (of_decide_eq_true c).1
          cases this
        · exact z
      obtain ⟨i, rfl⟩ : ∃ i, j = i + 1 := ⟨j - 1, by omega⟩
      obtain ⟨w, r2, er2⟩ : ∃ w r2, r = w :: r2 := by
        cases r with
        | nil =>
          unfold swp at c
          have := (of_decide_eq_true c).2.1
          cases this
        | cons w r2 => exact ⟨w, r2, rfl⟩
      obtain ⟨z, hz⟩ : ∃ z, name[i]? = some z := ⟨name[i], List.getElem?_eq_getElem (by omega)⟩
      have ea : (name.take (i + 1)).reverse = z :: (name.take i).reverse := rev_take hz
      rw [ea, er2, List.tail_cons, List.tail_cons] at st
      have e2 : ((i + 1 + 1 : Nat) : Int) - 2 = (i : Int) := by omega
      have a4 : L2.atI (rgN (rowS name r2)) (i : Int) = some (.int ((sp (name.take i).reverse r2 : Nat) : Int)) := pre_atI name r2 (by omega)
      generalize hE : sp (name.take i).reverse r2 = Ee at st a4
      have eb : befV name r = .tup (rgN (rowS name r2)) := by rw [er2]; rfl
      have em : (if ((Ee : Int) + 1 < ((min (min A B + 1) (C + D) : Nat) : Int)) then (Ee : Int) + 1 else ((min (min A B + 1) (C + D) : Nat) : Int)) = ((sp (name.take (i + 1 + 1)).reverse (y :: r) : Nat) : Int) := by
        rw [er2, st]
        split <;> omega
      unfold slS
      rw [eb]
      simp -implicitDefEqProofs only [RR, sz0, sz1, sz2, sz3, wipeM, List.set_cons_succ, List.set_cons_zero, List.getElem?_cons_succ, List.getElem?_cons_zero, ↓reduceIte, Bool.false_eq_true, List.length_cons, List.length_nil, Nat.zero_add, Nat.reduceAdd, beq_self_eq_true, Bool.not_true, Bool.not_false, List.cons_append, List.nil_append, List.append_nil, decide_true, decide_false, Bool.true_and, Bool.and_true, e2, a4, oIx_tup, oGt_int, cMin2_int, em, tyC_ref0, mut_0, ll, s2, sn]
    · rw [Bool.not_eq_true] at c
      rw [c]
      rw [c, if_neg (by decide)] at st
      have em : ((min (min A B + 1) (C + D) : Nat) : Int) = ((sp (name.take (j + 1)).reverse (y :: r) : Nat) : Int) := by rw [st]
      unfold slS
      rw [em]
      simp -implicitDefEqProofs only [RR, sz0, sz1, sz2, sz3, wipeM, List.set_cons_succ, List.set_cons_zero, List.getElem?_cons_succ, List.getElem?_cons_zero, ↓reduceIte, Bool.false_eq_true, List.length_cons, List.length_nil, Nat.zero_add, Nat.reduceAdd, beq_self_eq_true, Bool.not_true, Bool.not_false, List.cons_append, List.nil_append, List.append_nil, decide_true, decide_false, Bool.true_and, Bool.and_true, tyC_ref0, mut_0, ll, s2, sn]
theorem spec_slipped (hl : name.length ≤ 1000) (h : AH) : pureN m_slipped [sV name, rowsV name r, lastV r, sV [y]] h = .ok (.v (rowsV name (y :: r))) h := by
  obtain ⟨v5, v8, f⟩ := row_loop name r y hl name.length 0 none none (by omega)
  refine pure_v (h2 := [.lst (rgN (rowS name (y :: r)))]) (by simp [plain_rows, plain_last]) ?_ (plain_rows _ _) h
  rw [a_slipped]
  unfold b_slipped
  have e0 : L2.atI (rgN (rowS name r)) ((0 : Nat) : Int) = some (.int ((sp (name.take 0).reverse r : Nat) : Int)) := pre_atI name r (by omega)
  have e0' : L2.atI (rgN (rowS name r)) 0 = some (.int (r.length : Int)) := by
    have := e0
    rw [List.take_zero, List.reverse_nil, sp_nil_left] at this
    exact this
  have p1 : rgN (pre name (y :: r) (0 + 1)) = [.int ((r.length : Int) + 1)] := by
    unfold rgN pre
    rw [List.range_one, List.map_cons, List.map_cons, List.take_zero, List.reverse_nil, sp_nil_left]
    rfl
  have er : rngV 1 (((name.length : Int) + 1) - 1).toNat = (List.range name.length).map fun i => Val.int ((0 + 1 + i : Nat) : Int) := by
    unfold rngV
    rw [show ((name.length : Int) + 1 - 1).toNat = name.length by omega]
    exact List.map_congr_left fun i _ => by
      show Val.int (1 + (i : Int)) = Val.int ((0 + 1 + i : Nat) : Int)
      rw [show (1 + (i : Int)) = ((0 + 1 + i : Nat) : Int) by omega]
  rw [p1] at f
  have s1 := sz (n := name.length) (by omega)
  have ro : rngOk ((name.length : Int) + 1) = true := rng_ok (by omega) (by omega)
  have ro1 : rngOk 1 = true := rfl
  unfold slS at f
  unfold rowsV at f ⊢
  have eb : befV name (y :: r) = .tup (rgN (rowS name r)) := rfl
  have ct : ∀ xs h, cTup [.ref 0] (.lst xs :: h) = some (.tup xs) := fun _ _ => rfl
  simp -implicitDefEqProofs only [RR, sz0, sz1, sz2, sz3, wipeM, List.set_cons_succ, List.set_cons_zero, List.getElem?_cons_succ, List.getElem?_cons_zero, ↓reduceIte, Bool.false_eq_true, List.length_cons, List.length_nil, Nat.zero_add, Nat.reduceAdd, beq_self_eq_true, Bool.not_true, Bool.not_false, List.cons_append, List.nil_append, List.append_nil, decide_true, decide_false, Bool.true_and, Bool.and_true, e0', s1, ro, ro1, er, f, lst_0, NVT_n, eb, ct]
end
theorem spec_begun (name : List Nat) (hl : name.length ≤ 1000) (h : AH) : pureN m_begun [sV name] h = .ok (.v (rowsV name [])) h := by
  refine pure_v (h2 := []) (by simp) ?_ (plain_rows _ _) h
  rw [a_begun]
  unfold b_begun
  have s1 := sz (n := name.length) (by omega)
  have e : rowS name [] = List.range (name.length + 1) := by
    unfold rowS pre
    conv => rhs; rw [← List.map_id (List.range (name.length + 1))]
    refine List.map_congr_left fun i hi => ?_
    rw [sp_nil_right, List.length_reverse, List.length_take, id]
    have := List.mem_range.mp hi
    omega
  have t : tr1 (.int ((name.length : Int) + 1)) = some (.tup (rgN (List.range (name.length + 1)))) := by
    unfold tr1
    have ok : (rngOk ((name.length : Int) + 1) && decide ((name.length : Int) + 1 ≤ 16777216)) = true := by
      rw [rng_ok (by omega) (by omega), Bool.true_and]
      exact decide_eq_true (by omega)
    dsimp only
    rw [if_pos ok, rngV_rg, show ((name.length : Int) + 1).toNat = name.length + 1 by omega]
  unfold rowsV befV
  simp -implicitDefEqProofs only [RR, sz0, sz1, sz2, sz3, wipeM, List.set_cons_succ, List.set_cons_zero, List.getElem?_cons_succ, List.getElem?_cons_zero, ↓reduceIte, Bool.false_eq_true, List.length_cons, List.length_nil, Nat.zero_add, Nat.reduceAdd, beq_self_eq_true, Bool.not_true, Bool.not_false, List.cons_append, List.nil_append, List.append_nil, decide_true, decide_false, Bool.true_and, Bool.and_true, mTRng1_app, s1, sS_len, t, e]
end W

set_option Elab.async false
set_option linter.all false
set_option maxRecDepth 100000
set_option maxHeartbeats 4000000
namespace W
open PySem L2 Mr
/-! ### the program's functions -/
theorem row_last (name r : List Nat) : L2.atI (rgN (rowS name r)) (-1) = some (.int ((sp name.reverse r : Nat) : Int)) := by
  unfold rowS
  rw [pre_snoc', atI_last', List.take_length]
theorem slips_loop (name s : List Nat) (hl : name.length ≤ 1000) : ∀ (t r : List Nat) (v2 : Option Val), ∃ v2', forV (.nm 2) l_slips_in_0 (sgs t) [some (sV name), some (sV s), v2, some (rowsV name r), some (lastV r)] [] = some (.nx [some (sV name), some (sV s), v2', some (rowsV name (t.reverse ++ r)), some (lastV (t.reverse ++ r))], [])
  | [], r, v2 => ⟨v2, rfl⟩
  | c :: t, r, v2 => by
    obtain ⟨v2', f⟩ := slips_loop name s hl t (c :: r) (some (sV [c]))
    refine ⟨v2', ?_⟩
    have e : (c :: t).reverse ++ r = t.reverse ++ (c :: r) := by rw [List.reverse_cons, List.append_assoc]; rfl
    rw [e, ← f]
    show forV _ _ (sV [c] :: sgs t) _ _ = _
    rw [forV_cons]
    have el : lastV (c :: r) = sV [c] := rfl
    rw [el]
    simp -implicitDefEqProofs only [RR, sz0, sz1, sz2, sz3, wipeM, List.set_cons_succ, List.set_cons_zero, List.getElem?_cons_succ, List.getElem?_cons_zero, ↓reduceIte, Bool.false_eq_true, List.length_cons, List.length_nil, Nat.zero_add, Nat.reduceAdd, beq_self_eq_true, Bool.not_true, Bool.not_false, List.cons_append, List.nil_append, List.append_nil, decide_true, decide_false, Bool.true_and, Bool.and_true, l_slips_in_0, spec_slipped name r c hl]
theorem spec_slips_in (name s : List Nat) (hl : name.length ≤ 1000) (h : AH) : pureN m_slips_in [sV name, sV s] h = .ok (.v (.int ((sp name s : Nat) : Int))) h := by
  obtain ⟨v2', f⟩ := slips_loop name s hl s [] none
  refine pure_v (h2 := []) (by simp) ?_ (plain_int _) h
  rw [a_slips_in]
  unfold b_slips_in
  rw [List.append_nil] at f
  have e : L2.atI [befV name s.reverse, Val.tup (rgN (rowS name s.reverse))] 1 = some (.tup (rgN (rowS name s.reverse))) := rfl
  have l := row_last name s.reverse
  rw [sp_rev] at l
  have n1 : (-(1 : Int)) = -1 := rfl
  have f' := f
  have el : lastV [] = .non := rfl
  rw [el] at f'
  simp -implicitDefEqProofs only [RR, sz0, sz1, sz2, sz3, wipeM, List.set_cons_succ, List.set_cons_zero, List.getElem?_cons_succ, List.getElem?_cons_zero, ↓reduceIte, Bool.false_eq_true, List.length_cons, List.length_nil, Nat.zero_add, Nat.reduceAdd, beq_self_eq_true, Bool.not_true, Bool.not_false, List.cons_append, List.nil_append, List.append_nil, decide_true, decide_false, Bool.true_and, Bool.and_true, spec_begun name hl, strV_sS, f']
  unfold rowsV
  simp -implicitDefEqProofs only [RR, sz0, sz1, sz2, sz3, wipeM, List.set_cons_succ, List.set_cons_zero, List.getElem?_cons_succ, List.getElem?_cons_zero, ↓reduceIte, Bool.false_eq_true, List.length_cons, List.length_nil, Nat.zero_add, Nat.reduceAdd, beq_self_eq_true, Bool.not_true, Bool.not_false, List.cons_append, List.nil_append, List.append_nil, decide_true, decide_false, Bool.true_and, Bool.and_true, oIx_tup, e, n1, l]
theorem in_lets {c : Nat} (h0 : 97 ≤ c) (h1 : c ≤ 122) : decide (c ∈ ((("abcdefghijklmnopqrstuvwxyz" : String) : Str)).cps.toList) = true := by
  refine decide_eq_true ?_
  have : ∀ c : Nat, c < 123 → 97 ≤ c → c ∈ ((("abcdefghijklmnopqrstuvwxyz" : String) : Str)).cps.toList := by decide +kernel
  exact this c (by omega) h0
theorem oNotIn_sign (c : Nat) (z : Str) (h : AH) : oNotIn (sV [c]) (.str z) h = some (.bl (!decide (c ∈ z.cps.toList))) := rfl
theorem lc_letters {l : List Nat} (ho : letters l) (hl : l.length ≤ 1000) (i j : Nat) (sl : Sl) (hj : sl[j]? = some (some (sV l))) (hi : i < sl.length) (h : AH) : mLc (mIter (mVar j)) (.nm i) (mTest (mOp oNotIn (mVar i) (mC (.str "abcdefghijklmnopqrstuvwxyz")))) (mVar i) [i] sl h = .ok (.n []) h := by
  rw [mLc_pure (xs := sgs l) (h1 := h) (fun _ => false) id (by simp -implicitDefEqProofs only [RR, sz0, sz1, sz2, sz3, wipeM, List.set_cons_succ, List.set_cons_zero, List.getElem?_cons_succ, List.getElem?_cons_zero, ↓reduceIte, Bool.false_eq_true, List.length_cons, List.length_nil, Nat.zero_add, Nat.reduceAdd, beq_self_eq_true, Bool.not_true, Bool.not_false, List.cons_append, List.nil_append, List.append_nil, decide_true, decide_false, Bool.true_and, Bool.and_true, hj, strV_sS]) (by unfold sgs; rw [List.length_map]; omega) (fun v hv => ?_)]
  · simp
  · obtain ⟨c, hc, rfl⟩ := List.mem_map.mp hv
    have g : ((wipeM sl [i]).set i (some (sV [c])))[i]? = some (some (sV [c])) := by
      rw [List.getElem?_set_self]
      show i < (sl.set i none).length
      rw [List.length_set]; exact hi
    refine ⟨(wipeM sl [i]).set i (some (sV [c])), by rw [Pat.bd_nm], ?_, fun z => by cases z⟩
    rw [mTest_app, mOp_app, mVar_app, g, vrK_some, bdK_ok, mC_app, bdK_ok, oNotIn_sign, in_lets (ho c hc).1 (ho c hc).2]
    rfl
theorem spec_are_letters {l : List Nat} (a b : Int) (ho : letters l) (h0 : a ≤ l.length) (h1 : (l.length : Int) ≤ b) (hl : l.length ≤ 1000) (h : AH) : pureN m_are_letters [sV l, .int a, .int b] h = .ok (.v (.bl true)) h := by
  refine pure_v (h2 := []) (by simp) ?_ (plain_bl _) h
  rw [a_are_letters]
  unfold b_are_letters
  have lc := lc_letters ho hl 3 0 [some (sV l), some (.int a), some (.int b), none] rfl (show 3 < 4 by decide) []
  have d1 : decide (a ≤ (l.length : Int)) = true := decide_eq_true h0
  have d2 : decide ((l.length : Int) ≤ b) = true := decide_eq_true h1
  have s1 := sz (n := l.length) (by omega)
  simp -implicitDefEqProofs only [RR, sz0, sz1, sz2, sz3, wipeM, List.set_cons_succ, List.set_cons_zero, List.getElem?_cons_succ, List.getElem?_cons_zero, ↓reduceIte, Bool.false_eq_true, List.length_cons, List.length_nil, Nat.zero_add, Nat.reduceAdd, beq_self_eq_true, Bool.not_true, Bool.not_false, List.cons_append, List.nil_append, List.append_nil, decide_true, decide_false, Bool.true_and, Bool.and_true, lc, d1, d2, s1, List.isEmpty_nil]
theorem spec_check_string {l : List Nat} (ho : letters l) (hl : l.length ≤ 10) (h : AH) : pureN m_check_string [sV l] h = .ok (.v .non) h := by
  refine pure_v (h2 := []) (by simp) ?_ plain_non h
  rw [a_check_string]
  unfold b_check_string
  simp -implicitDefEqProofs only [RR, sz0, sz1, sz2, sz3, wipeM, List.set_cons_succ, List.set_cons_zero, List.getElem?_cons_succ, List.getElem?_cons_zero, ↓reduceIte, Bool.false_eq_true, List.length_cons, List.length_nil, Nat.zero_add, Nat.reduceAdd, beq_self_eq_true, Bool.not_true, Bool.not_false, List.cons_append, List.nil_append, List.append_nil, decide_true, decide_false, Bool.true_and, Bool.and_true, spec_are_letters 0 10 ho (by omega) (by omega) (by omega)]
theorem spec_is_name {l : List Nat} (ho : letters l) (h1 : 1 ≤ l.length) (hl : l.length ≤ 8) (h : AH) : pureN m_is_name [sV l] h = .ok (.v (.bl true)) h := by
  refine pure_v (h2 := []) (by simp) ?_ (plain_bl _) h
  rw [a_is_name]
  unfold b_is_name
  have lc := lc_letters ho (by omega) 1 0 [some (sV l), none] rfl (show 1 < 2 by decide) []
  have d1 : decide ((1 : Int) ≤ (l.length : Int)) = true := decide_eq_true (by omega)
  have d2 : decide ((l.length : Int) ≤ 8) = true := decide_eq_true (by omega)
  have s1 := sz (n := l.length) (by omega)
  simp -implicitDefEqProofs only [RR, sz0, sz1, sz2, sz3, wipeM, List.set_cons_succ, List.set_cons_zero, List.getElem?_cons_succ, List.getElem?_cons_zero, ↓reduceIte, Bool.false_eq_true, List.length_cons, List.length_nil, Nat.zero_add, Nat.reduceAdd, beq_self_eq_true, Bool.not_true, Bool.not_false, List.cons_append, List.nil_append, List.append_nil, decide_true, decide_false, Bool.true_and, Bool.and_true, lc, d1, d2, s1, List.isEmpty_nil]
theorem spec_slips {a b : List Nat} (ha : letters a) (hb : letters b) (la : a.length ≤ 10) (lb : b.length ≤ 10) (h : AH) : pureN m_slips [sV a, sV b] h = .ok (.v (.int ((sp a b : Nat) : Int))) h := by
  refine pure_v (h2 := []) (by simp) ?_ (plain_int _) h
  rw [a_slips]
  unfold b_slips
  simp -implicitDefEqProofs only [RR, sz0, sz1, sz2, sz3, wipeM, List.set_cons_succ, List.set_cons_zero, List.getElem?_cons_succ, List.getElem?_cons_zero, ↓reduceIte, Bool.false_eq_true, List.length_cons, List.length_nil, Nat.zero_add, Nat.reduceAdd, beq_self_eq_true, Bool.not_true, Bool.not_false, List.cons_append, List.nil_append, List.append_nil, decide_true, decide_false, Bool.true_and, Bool.and_true, spec_check_string ha la, spec_check_string hb lb, spec_slips_in a b (by omega)]
/-! a book -/
theorem cb_loop (B : Val) {L : List (List Nat)} (hB : ∀ j : Nat, L2.atI (L.map sV) (j : Int) = (L.map sV)[j]?) (b : Bk L) : ∀ (Q : List (List Nat)) (j : Nat) (v1 v2 : Option Val), L.drop j = Q → ∃ v1' v2',
    forV (.tp [.nm 1, .nm 2]) l_check_book_0 (enumF j (Q.map sV)) [some (.fl (L.map sV)), v1, v2] [] = some (.nx [some (.fl (L.map sV)), v1', v2'], [])
  | [], j, v1, v2, _ => ⟨v1, v2, rfl⟩
  | q :: Q, j, v1, v2, hq => by
    have hj : j < L.length := by
      have : (L.drop j).length = (q :: Q).length := by rw [hq]
      rw [List.length_drop, List.length_cons] at this
      omega
    rw [List.drop_eq_getElem_cons hj] at hq
    obtain ⟨e1, e2⟩ := List.cons.inj hq
    obtain ⟨v1', v2', f⟩ := cb_loop B hB b Q (j + 1) (some (.int (j : Int))) (some (sV q)) e2
    refine ⟨v1', v2', ?_⟩
    rw [← f, List.map_cons, enumF, forV_cons]
    obtain ⟨l1, l2, l3⟩ := b.each q (by rw [← e1]; exact List.getElem_mem hj)
    have nm := spec_is_name l3 l1 (by omega)
    cases j with
    | zero =>
      have d : decide ((0 : Int) < ((0 : Nat) : Int)) = false := rfl
      simp -implicitDefEqProofs only [RR, sz0, sz1, sz2, sz3, wipeM, List.set_cons_succ, List.set_cons_zero, List.getElem?_cons_succ, List.getElem?_cons_zero, ↓reduceIte, Bool.false_eq_true, List.length_cons, List.length_nil, Nat.zero_add, Nat.reduceAdd, beq_self_eq_true, Bool.not_true, Bool.not_false, List.cons_append, List.nil_append, List.append_nil, decide_true, decide_false, Bool.true_and, Bool.and_true, l_check_book_0, nm, oGt_int, d]
    | succ i =>
      have d : decide ((0 : Int) < ((i + 1 : Nat) : Int)) = true := decide_eq_true (by omega)
      have lt : L[i] < q := by
        rw [← e1]
        exact List.pairwise_iff_getElem.mp b.up i (i + 1) (by omega) hj (by omega)
      have le : oLe (sV q) (sV L[i]) [] = some (.bl false) := by
        show some (Val.bl (!decide (L[i] < q))) = _
        rw [decide_eq_true lt]
        rfl
      have ei : ((i + 1 : Nat) : Int) - 1 = (i : Int) := by omega
      have a : L2.atI (L.map sV) (i : Int) = some (sV L[i]) := by rw [hB, List.getElem?_map, List.getElem?_eq_getElem (by omega)]; rfl
      simp -implicitDefEqProofs only [RR, sz0, sz1, sz2, sz3, wipeM, List.set_cons_succ, List.set_cons_zero, List.getElem?_cons_succ, List.getElem?_cons_zero, ↓reduceIte, Bool.false_eq_true, List.length_cons, List.length_nil, Nat.zero_add, Nat.reduceAdd, beq_self_eq_true, Bool.not_true, Bool.not_false, List.cons_append, List.nil_append, List.append_nil, decide_true, decide_false, Bool.true_and, Bool.and_true, l_check_book_0, nm, oGt_int, d, oSub_int, ei, a, le]
theorem spec_check_book {L : List (List Nat)} (b : Bk L) (h : AH) : pureN m_check_book [.fl (L.map sV)] h = .ok (.v .non) h := by
  obtain ⟨v1, v2, f⟩ := cb_loop .non (fun j => atI_nat') b L 0 none none rfl
  refine pure_v (h2 := []) (by simp) ?_ plain_non h
  rw [a_check_book]
  unfold b_check_book
  have n0 : 0 < L.length := List.length_pos_iff.mpr b.ne
  have n3 := b.len
  have d1 : decide ((1 : Int) ≤ (L.length : Int)) = true := decide_eq_true (by omega)
  have d2 : decide ((L.length : Int) ≤ 8) = true := decide_eq_true (by omega)
  simp -implicitDefEqProofs only [RR, sz0, sz1, sz2, sz3, wipeM, List.set_cons_succ, List.set_cons_zero, List.getElem?_cons_succ, List.getElem?_cons_zero, ↓reduceIte, Bool.false_eq_true, List.length_cons, List.length_nil, Nat.zero_add, Nat.reduceAdd, beq_self_eq_true, Bool.not_true, Bool.not_false, List.cons_append, List.nil_append, List.append_nil, decide_true, decide_false, Bool.true_and, Bool.and_true, List.length_map, d1, d2, f]
/-- the least of some numbers -/
def mn : List Nat → Nat
  | [] => 0
  | a :: as => as.foldl min a
theorem minI_nat : ∀ (as : List Nat) (a : Nat), minI (a : Int) (as.map fun n : Nat => (n : Int)) = ((as.foldl min a : Nat) : Int)
  | [], a => rfl
  | b :: as, a => by
    rw [List.map_cons]
    show minI (if (b : Int) < a then (b : Int) else a) _ = _
    rw [List.foldl_cons, ← minI_nat as (min a b)]
    congr 1
    split <;> omega
theorem cMin_nat {ns : List Nat} (hn : ns ≠ []) (h : AH) : cMinL [.fl (rgN ns)] h = some (.int ((mn ns : Nat) : Int)) := by
  cases ns with
  | nil => exact absurd rfl hn
  | cons a as =>
    have := cMinL_ints (a : Int) (as.map fun n : Nat => (n : Int)) h
    rw [minI_nat] at this
    have e : rgN (a :: as) = ((a : Int) :: as.map fun n : Nat => (n : Int)).map Val.int := by
      unfold rgN
      rw [List.map_cons, List.map_cons, List.map_map]
      rfl
    rw [e, this]
    rfl
theorem foldl_min : ∀ (as : List Nat) (a : Nat), as.foldl min a ≤ a ∧ (∀ x ∈ as, as.foldl min a ≤ x) ∧ (as.foldl min a = a ∨ as.foldl min a ∈ as)
  | [], a => ⟨Nat.le_refl _, fun x hx => (by cases hx), .inl rfl⟩
  | b :: as, a => by
    obtain ⟨h1, h2, h3⟩ := foldl_min as (min a b)
    rw [List.foldl_cons]
    refine ⟨by omega, fun x hx => ?_, ?_⟩
    · rcases List.mem_cons.mp hx with z | z
      · subst z; omega
      · exact h2 x z
    · rcases h3 with z | z
      · rcases Nat.le_total a b with y | y
        · left; omega
        · right; rw [z, Nat.min_eq_right y]; exact List.mem_cons_self
      · right; exact List.mem_cons_of_mem _ z
theorem mn_le {ns : List Nat} {n : Nat} (hn : n ∈ ns) : mn ns ≤ n := by
  cases ns with
  | nil => cases hn
  | cons a as =>
    obtain ⟨h1, h2, _⟩ := foldl_min as a
    rcases List.mem_cons.mp hn with z | z
    · subst z; exact h1
    · exact h2 n z
theorem mn_mem {ns : List Nat} (hn : ns ≠ []) : mn ns ∈ ns := by
  cases ns with
  | nil => exact absurd rfl hn
  | cons a as =>
    obtain ⟨_, _, h3⟩ := foldl_min as a
    rcases h3 with z | z
    · show as.foldl min a ∈ _
      rw [z]; exact List.mem_cons_self
    · exact List.mem_cons_of_mem _ z
def nbs (L : List (List Nat)) (s : List Nat) : List Nat := L.map fun l => sp l s
def lst_ (L : List (List Nat)) (s : List Nat) : Nat := mn (nbs L s)
def nrs (L : List (List Nat)) (s : List Nat) : List (List Nat) := L.filter fun l => decide (sp l s = lst_ L s)
theorem nbs_ne {L : List (List Nat)} (hL : L ≠ []) (s : List Nat) : nbs L s ≠ [] := fun z => hL (List.map_eq_nil_iff.mp z)
theorem nrs_ne {L : List (List Nat)} (hL : L ≠ []) (s : List Nat) : nrs L s ≠ [] := fun z => by
  obtain ⟨l, h1, h2⟩ := List.mem_map.mp (mn_mem (nbs_ne hL s))
  have : l ∈ nrs L s := List.mem_filter.mpr ⟨h1, decide_eq_true h2⟩
  rw [z] at this
  cases this
theorem zip_book (L : List (List Nat)) (s : List Nat) : zipV (L.map sV) (rgN (nbs L s)) = L.map fun l => .tup [sV l, .int ((sp l s : Nat) : Int)] := by
  unfold zipV rgN nbs
  rw [List.map_map]
  induction L with
  | nil => rfl
  | cons l L ih => rw [List.map_cons, List.map_cons, List.zipWith_cons_cons, ih]; rfl
theorem nr_lc {L : List (List Nat)} (hL : L ≠ []) (hl : L.length ≤ 1000) (s : List Nat) (i j a b : Nat) (sl : Sl) (h : AH) (hz : mZip (mCons (mVar a) (mCons (mVar b) mNil)) sl h = .ok (zipV (L.map sV) (rgN (nbs L s))) h) (hb : ∀ l, ∃ s1, Pat.bd (.tp [.nm i, .nm j]) (.tup [sV l, .int ((sp l s : Nat) : Int)]) (wipeM sl [i, j]) = some s1 ∧ s1[i]? = some (some (sV l)) ∧ s1[j]? = some (some (.int ((sp l s : Nat) : Int))) ∧ s1[b]? = some (some (.fl (rgN (nbs L s))))) :
    mLc (mZip (mCons (mVar a) (mCons (mVar b) (mNil)))) (.tp [.nm i, .nm j]) (mTest (mOp oEq (mVar j) (mCall cMinL (mCons (mVar b) (mNil))))) (mVar i) [i, j] sl h = .ok (.n ((nrs L s).map sV)) h := by
  refine mLc_on L (fun l => .tup [sV l, .int ((sp l s : Nat) : Int)]) (fun l => decide (sp l s = lst_ L s)) sV ?_ (by omega) (fun l _ => ?_)
  · rw [hz, zip_book]
  · obtain ⟨s1, e1, e2, e3, e4⟩ := hb l
    refine ⟨s1, e1, ?_, fun _ => by simp -implicitDefEqProofs only [RR, sz0, sz1, sz2, sz3, wipeM, List.set_cons_succ, List.set_cons_zero, List.getElem?_cons_succ, List.getElem?_cons_zero, ↓reduceIte, Bool.false_eq_true, List.length_cons, List.length_nil, Nat.zero_add, Nat.reduceAdd, beq_self_eq_true, Bool.not_true, Bool.not_false, List.cons_append, List.nil_append, List.append_nil, decide_true, decide_false, Bool.true_and, Bool.and_true, e2]⟩
    have c := cMin_nat (nbs_ne hL s) h
    have d : decide (((sp l s : Nat) : Int) = ((mn (nbs L s) : Nat) : Int)) = decide (sp l s = lst_ L s) := by
      unfold lst_
      by_cases z : sp l s = mn (nbs L s)
      · rw [decide_eq_true z, decide_eq_true (by omega)]
      · rw [decide_eq_false z, decide_eq_false (by omega)]
    simp -implicitDefEqProofs only [RR, sz0, sz1, sz2, sz3, wipeM, List.set_cons_succ, List.set_cons_zero, List.getElem?_cons_succ, List.getElem?_cons_zero, ↓reduceIte, Bool.false_eq_true, List.length_cons, List.length_nil, Nat.zero_add, Nat.reduceAdd, beq_self_eq_true, Bool.not_true, Bool.not_false, List.cons_append, List.nil_append, List.append_nil, decide_true, decide_false, Bool.true_and, Bool.and_true, e3, e4, c, d]
theorem run_nearest_in {L : List (List Nat)} (hL : L ≠ []) (hl : L.length ≤ 1000) (h8 : ∀ l ∈ L, l.length ≤ 1000) (s : List Nat) : m_nearest_in [.fl (L.map sV), sV s] [] = .ok (.tup [.int ((lst_ L s : Nat) : Int), .ref 0]) [.lst ((nrs L s).map sV)] := by
  rw [a_nearest_in]
  unfold b_nearest_in
  have l1 : mLc (mIter (mVar 0)) (.nm 3) (mYes) (mF (mCallP m_slips_in [] (mCons (mVar 3) (mCons (mVar 1) (mNil))))) [3] [some (.fl (L.map sV)), some (sV s), none, none, none] [] = .ok (.n (rgN (nbs L s))) [] := by
    rw [mLc_on (h1 := []) L sV (fun _ => true) (fun l => .int ((sp l s : Nat) : Int)) (by simp -implicitDefEqProofs only [RR, sz0, sz1, sz2, sz3, wipeM, List.set_cons_succ, List.set_cons_zero, List.getElem?_cons_succ, List.getElem?_cons_zero, ↓reduceIte, Bool.false_eq_true, List.length_cons, List.length_nil, Nat.zero_add, Nat.reduceAdd, beq_self_eq_true, Bool.not_true, Bool.not_false, List.cons_append, List.nil_append, List.append_nil, decide_true, decide_false, Bool.true_and, Bool.and_true, ]) (by omega) (fun l hl2 => ⟨[some (.fl (L.map sV)), some (sV s), none, some (sV l), none], by simp -implicitDefEqProofs only [RR, sz0, sz1, sz2, sz3, wipeM, List.set_cons_succ, List.set_cons_zero, List.getElem?_cons_succ, List.getElem?_cons_zero, ↓reduceIte, Bool.false_eq_true, List.length_cons, List.length_nil, Nat.zero_add, Nat.reduceAdd, beq_self_eq_true, Bool.not_true, Bool.not_false, List.cons_append, List.nil_append, List.append_nil, decide_true, decide_false, Bool.true_and, Bool.and_true, ], by simp -implicitDefEqProofs only [RR, sz0, sz1, sz2, sz3, wipeM, List.set_cons_succ, List.set_cons_zero, List.getElem?_cons_succ, List.getElem?_cons_zero, ↓reduceIte, Bool.false_eq_true, List.length_cons, List.length_nil, Nat.zero_add, Nat.reduceAdd, beq_self_eq_true, Bool.not_true, Bool.not_false, List.cons_append, List.nil_append, List.append_nil, decide_true, decide_false, Bool.true_and, Bool.and_true, ], fun _ => by simp -implicitDefEqProofs only [RR, sz0, sz1, sz2, sz3, wipeM, List.set_cons_succ, List.set_cons_zero, List.getElem?_cons_succ, List.getElem?_cons_zero, ↓reduceIte, Bool.false_eq_true, List.length_cons, List.length_nil, Nat.zero_add, Nat.reduceAdd, beq_self_eq_true, Bool.not_true, Bool.not_false, List.cons_append, List.nil_append, List.append_nil, decide_true, decide_false, Bool.true_and, Bool.and_true, spec_slips_in l s (h8 l hl2)]⟩)]
    unfold rgN nbs
    rw [List.filter_eq_self.mpr (fun _ _ => rfl), List.map_map]
    rfl
  have l2 := nr_lc hL hl s 3 4 0 2 [some (.fl (L.map sV)), some (sV s), some (.fl (rgN (nbs L s))), none, none] [] (by simp -implicitDefEqProofs only [RR, sz0, sz1, sz2, sz3, wipeM, List.set_cons_succ, List.set_cons_zero, List.getElem?_cons_succ, List.getElem?_cons_zero, ↓reduceIte, Bool.false_eq_true, List.length_cons, List.length_nil, Nat.zero_add, Nat.reduceAdd, beq_self_eq_true, Bool.not_true, Bool.not_false, List.cons_append, List.nil_append, List.append_nil, decide_true, decide_false, Bool.true_and, Bool.and_true, ]) (fun l => ⟨[some (.fl (L.map sV)), some (sV s), some (.fl (rgN (nbs L s))), some (sV l), some (.int ((sp l s : Nat) : Int))], by simp -implicitDefEqProofs only [RR, sz0, sz1, sz2, sz3, wipeM, List.set_cons_succ, List.set_cons_zero, List.getElem?_cons_succ, List.getElem?_cons_zero, ↓reduceIte, Bool.false_eq_true, List.length_cons, List.length_nil, Nat.zero_add, Nat.reduceAdd, beq_self_eq_true, Bool.not_true, Bool.not_false, List.cons_append, List.nil_append, List.append_nil, decide_true, decide_false, Bool.true_and, Bool.and_true, ], rfl, rfl, rfl⟩)
  have c := cMin_nat (nbs_ne hL s) []
  simp -implicitDefEqProofs only [RR, sz0, sz1, sz2, sz3, wipeM, List.set_cons_succ, List.set_cons_zero, List.getElem?_cons_succ, List.getElem?_cons_zero, ↓reduceIte, Bool.false_eq_true, List.length_cons, List.length_nil, Nat.zero_add, Nat.reduceAdd, beq_self_eq_true, Bool.not_true, Bool.not_false, List.cons_append, List.nil_append, List.append_nil, decide_true, decide_false, Bool.true_and, Bool.and_true, l1, NVF_n (plains_rgN _), c, l2, NVT_n]
  rfl
theorem frzs_plain {xs : List Val} (hp : plains xs = true) (h : AH) : frzs (frz 8) xs h = some (xs, h) := by
  unfold frzs
  rw [if_pos hp]
theorem pureT_of {f : List Val → M Val} {xs zs : List Val} {a : Val} {k : Nat} {h h2 : AH} (hp : plains xs = true) (e : f xs [] = .ok (.tup [a, .ref k]) h2) (pa : plain a = true) (hk : h2[k]? = some (.lst zs)) (pz : plains zs = true) : pureT f xs h = .ok (.tup [a, .ref h.length]) (h ++ [.lst zs]) := by
  unfold pureT fzL bnd
  dsimp only
  rw [frzs_plain hp]
  dsimp only
  rw [e]
  dsimp only
  unfold resT
  dsimp only
  rw [frz_plain pa]
  dsimp only
  rw [hk]
  dsimp only
  rw [if_pos pz]
theorem mCallT_app (f : List Val → M Val) (dm : List Val) (t : MA) (sl : Sl) (h : AH) : mCallT f dm t sl h = bdK (t sl h) fun xs h1 => pureT f (xs ++ dm) h1 := rfl
theorem pure_t2 {f : List Val → M Val} {xs ys : List Val} {a : Val} {k : Nat} {h2 : AH} (hp : plains xs = true) (e : f xs [] = .ok (.tup [a, .ref k]) h2) (pa : plain a = true) (hk : h2[k]? = some (.lst ys)) (py : plains ys = true) (h : AH) : pureN f xs h = .ok (.v (.tup [a, .fl ys])) h := by
  refine pureN_of (z := .v (.tup [a, .fl ys])) hp e ?_ h
  have f1 : frz 7 a h2 = some (a, h2) := frz_plain pa 7 h2
  have f2 : frz 7 (.ref k) h2 = some (.fl ys, h2.set k (.fz (.fl ys))) := by
    unfold frz
    dsimp only
    rw [hk]
    dsimp only
    unfold frzs
    rw [if_pos py]
    rfl
  have np : plains [a, Val.ref k] = false := by simp [Mr.plain]
  have f3 : frzs (frz 7) [a, .ref k] h2 = some ([a, .fl ys], h2.set k (.fz (.fl ys))) := by
    unfold frzs
    rw [if_neg (by rw [np]; decide)]
    unfold frzW
    rw [f1]
    dsimp only
    unfold frzW
    rw [f2]
    rfl
  show (frz 8 (.tup [a, .ref k]) h2).map (fun z => NV.v z.1) = _
  have f4 : frz 8 (.tup [a, .ref k]) h2 = (frzs (frz 7) [a, .ref k] h2).map fun z => (.tup z.1, z.2) := by
    conv => lhs; unfold frz
  rw [f4, f3]
  rfl
section
variable {L : List (List Nat)} {s : List Nat}
theorem nt_in (b : Bk L) (s : List Nat) (h : AH) : pureT m_nearest_in [.fl (L.map sV), sV s] h = .ok (.tup [.int ((lst_ L s : Nat) : Int), .ref h.length]) (h ++ [.lst ((nrs L s).map sV)]) :=
  pureT_of (by simp) (run_nearest_in b.ne (by have := b.len; omega) (fun l hl => by have := (b.each l hl).2.1; omega) s) (plain_int _) rfl (plains_sV _)
theorem run_nearest (b : Bk L) (hs : letters s) (ls : s.length ≤ 10) : m_nearest [.fl (L.map sV), sV s] [] = .ok (.tup [.int ((lst_ L s : Nat) : Int), .ref 0]) [.lst ((nrs L s).map sV)] := by
  rw [a_nearest]
  unfold b_nearest
  have e := nt_in b s []
  simp -implicitDefEqProofs only [RR, sz0, sz1, sz2, sz3, wipeM, List.set_cons_succ, List.set_cons_zero, List.getElem?_cons_succ, List.getElem?_cons_zero, ↓reduceIte, Bool.false_eq_true, List.length_cons, List.length_nil, Nat.zero_add, Nat.reduceAdd, beq_self_eq_true, Bool.not_true, Bool.not_false, List.cons_append, List.nil_append, List.append_nil, decide_true, decide_false, Bool.true_and, Bool.and_true, spec_check_book b, spec_check_string hs ls, mCallT_app, e]
theorem spec_check_most (k : Nat) (hk : k ≤ 3) (h : AH) : pureN m_check_most [.int (k : Int)] h = .ok (.v .non) h := by
  refine pure_v (h2 := []) (by simp) ?_ plain_non h
  rw [a_check_most]
  unfold b_check_most
  have w : ∀ h, pureN m_is_whole [.int (k : Int)] h = .ok (.v (.bl true)) h := fun h => by
    refine pure_v (h2 := []) (by simp) ?_ (plain_bl _) h
    rw [a_is_whole]
    unfold b_is_whole
    simp -implicitDefEqProofs only [RR, sz0, sz1, sz2, sz3, wipeM, List.set_cons_succ, List.set_cons_zero, List.getElem?_cons_succ, List.getElem?_cons_zero, ↓reduceIte, Bool.false_eq_true, List.length_cons, List.length_nil, Nat.zero_add, Nat.reduceAdd, beq_self_eq_true, Bool.not_true, Bool.not_false, List.cons_append, List.nil_append, List.append_nil, decide_true, decide_false, Bool.true_and, Bool.and_true, ]
  have d1 : decide ((0 : Int) ≤ (k : Int)) = true := decide_eq_true (by omega)
  have d2 : decide ((k : Int) ≤ 3) = true := decide_eq_true (by omega)
  simp -implicitDefEqProofs only [RR, sz0, sz1, sz2, sz3, wipeM, List.set_cons_succ, List.set_cons_zero, List.getElem?_cons_succ, List.getElem?_cons_zero, ↓reduceIte, Bool.false_eq_true, List.length_cons, List.length_nil, Nat.zero_add, Nat.reduceAdd, beq_self_eq_true, Bool.not_true, Bool.not_false, List.cons_append, List.nil_append, List.append_nil, decide_true, decide_false, Bool.true_and, Bool.and_true, w, d1, d2]
/-- what is told for at most k slips -/
def mdV (L : List (List Nat)) (s : List Nat) (k : Nat) : Val := if lst_ L s ≤ k then sV ((nrs L s).headD []) else .non
theorem plain_md (L : List (List Nat)) (s : List Nat) (k : Nat) : plain (mdV L s k) = true := by unfold mdV; split <;> simp
theorem head_at (hL : L ≠ []) (s : List Nat) : L2.atI ((nrs L s).map sV) 0 = some (sV ((nrs L s).headD [])) := by
  cases e : nrs L s with
  | nil => exact absurd e (nrs_ne hL s)
  | cons a as =>
    show L2.atI _ ((0 : Nat) : Int) = _
    rw [atI_nat']
    rfl
theorem spec_mended_in (b : Bk L) (s : List Nat) (k : Nat) (h : AH) : pureN m_mended_in [.fl (L.map sV), sV s, .int (k : Int)] h = .ok (.v (mdV L s k)) h := by
  refine pure_v (h2 := [.lst ((nrs L s).map sV)]) (by simp) ?_ (plain_md L s k) h
  rw [a_mended_in]
  unfold b_mended_in
  have e := nt_in b s []
  have hd := head_at b.ne s
  unfold mdV
  by_cases c : lst_ L s ≤ k
  · have d : decide (((lst_ L s : Nat) : Int) ≤ (k : Int)) = true := decide_eq_true (by omega)
    rw [if_pos c]
    simp -implicitDefEqProofs only [RR, sz0, sz1, sz2, sz3, wipeM, List.set_cons_succ, List.set_cons_zero, List.getElem?_cons_succ, List.getElem?_cons_zero, ↓reduceIte, Bool.false_eq_true, List.length_cons, List.length_nil, Nat.zero_add, Nat.reduceAdd, beq_self_eq_true, Bool.not_true, Bool.not_false, List.cons_append, List.nil_append, List.append_nil, decide_true, decide_false, Bool.true_and, Bool.and_true, mCallT_app, e, d, oIx_ref, lst_0, ixK_some, hd]
  · have d : decide (((lst_ L s : Nat) : Int) ≤ (k : Int)) = false := decide_eq_false (by omega)
    rw [if_neg c]
    simp -implicitDefEqProofs only [RR, sz0, sz1, sz2, sz3, wipeM, List.set_cons_succ, List.set_cons_zero, List.getElem?_cons_succ, List.getElem?_cons_zero, ↓reduceIte, Bool.false_eq_true, List.length_cons, List.length_nil, Nat.zero_add, Nat.reduceAdd, beq_self_eq_true, Bool.not_true, Bool.not_false, List.cons_append, List.nil_append, List.append_nil, decide_true, decide_false, Bool.true_and, Bool.and_true, mCallT_app, e, d]
theorem spec_mended (b : Bk L) (hs : letters s) (ls : s.length ≤ 10) (k : Nat) (hk : k ≤ 3) (h : AH) : pureN m_mended [.fl (L.map sV), sV s, .int (k : Int)] h = .ok (.v (mdV L s k)) h := by
  refine pure_v (h2 := []) (by simp) ?_ (plain_md L s k) h
  rw [a_mended]
  unfold b_mended
  simp -implicitDefEqProofs only [RR, sz0, sz1, sz2, sz3, wipeM, List.set_cons_succ, List.set_cons_zero, List.getElem?_cons_succ, List.getElem?_cons_zero, ↓reduceIte, Bool.false_eq_true, List.length_cons, List.length_nil, Nat.zero_add, Nat.reduceAdd, beq_self_eq_true, Bool.not_true, Bool.not_false, List.cons_append, List.nil_append, List.append_nil, decide_true, decide_false, Bool.true_and, Bool.and_true, spec_check_book b, spec_check_string hs ls, spec_check_most k hk, spec_mended_in b s k]
end
end W

set_option Elab.async false
set_option linter.all false
set_option maxRecDepth 100000
set_option maxHeartbeats 4000000
namespace W
open PySem L2 Mr
/-! ### the law's slips -/
theorem cutS_sS (l : List Nat) (lo hi : Option Int) : cutS (sS l) lo hi = sS (cutL l lo hi) := by
  unfold cutS cutL
  rw [sS_len]
theorem cutS_to (l : List Nat) (p : Nat) : cutS (sS l) none (some (p : Int)) = sS (l.take p) := by
  unfold cutS
  rw [HT.sIx_none, HT.sIx_nat, sS_len, List.drop_zero, Nat.sub_zero]
  rcases Nat.le_total p l.length with h | h
  · rw [Nat.min_eq_left h]
  · rw [Nat.min_eq_right h, List.take_length, List.take_of_length_le h]
theorem cutS_from (l : List Nat) (p : Nat) : cutS (sS l) (some (p : Int)) none = sS (l.drop p) := by
  unfold cutS
  rw [HT.sIx_none, HT.sIx_nat, sS_len]
  rcases Nat.le_total p l.length with h | h
  · rw [Nat.min_eq_left h, List.take_of_length_le (by rw [List.length_drop]; exact Nat.le_refl _)]
  · rw [Nat.min_eq_right h, List.drop_length, List.drop_of_length_le h, List.take_nil]
theorem back_sS (l : List Nat) : backS (sS l) = sS l.reverse := rfl
theorem valM_nil {α : Type} (vs : List α) (k : List Key) : valM [] vs k = none := rfl
theorem valM_cons {α : Type} (q : List Key) (ks : List (List Key)) (v : α) (vs : List α) (k : List Key) : valM (q :: ks) (v :: vs) k = if q = k then some v else valM ks vs k := by
  unfold valM
  rw [List.zip_cons_cons, List.find?_cons]
  by_cases z : q = k
  · simp [z]
  · simp [z]
theorem valM_rep {α : Type} (k : List Key) (v : α) (k' : List Key) : ∀ (ks : List (List Key)) (vs : List α), ks.length = vs.length → valM ks ((ks.zip vs).map fun p => if p.1 = k then v else p.2) k' = if k' = k ∧ (ks.any fun q => decide (q = k)) = true then some v else valM ks vs k'
  | [], vs, _ => by simp [valM_nil]
  | q :: ks, [], h => by simp at h
  | q :: ks, u :: vs, h => by
    have ih := valM_rep k v k' ks vs (by simpa using h)
    rw [List.zip_cons_cons, List.map_cons, valM_cons, valM_cons, ih, List.any_cons]
    by_cases z : q = k'
    · subst z
      by_cases y : q = k
      · simp [y]
      · simp [y]
    · by_cases y : q = k
      · subst y
        have y2 : ¬ k' = q := fun e => z e.symm
        simp [z, y2]
      · rw [if_neg z, if_neg z, decide_eq_false y, Bool.false_or]
theorem valM_app {α : Type} (k : List Key) (v : α) (k' : List Key) : ∀ (ks : List (List Key)) (vs : List α), ks.length = vs.length → valM (ks ++ [k]) (vs ++ [v]) k' = match valM ks vs k' with
    | some u => some u
    | none => if k = k' then some v else none
  | [], vs, h => by
    have : vs = [] := List.length_eq_zero_iff.mp h.symm
    subst this
    rw [List.nil_append, List.nil_append, valM_cons]
    rfl
  | q :: ks, [], h => by simp at h
  | q :: ks, u :: vs, h => by
    have ih := valM_app k v k' ks vs (by simpa using h)
    rw [List.cons_append, List.cons_append, valM_cons, valM_cons, ih]
    by_cases z : q = k'
    · simp [z]
    · simp [z]
theorem valM_none {α : Type} (k : List Key) : ∀ (ks : List (List Key)) (vs : List α), ks.length = vs.length → (ks.any fun q => decide (q = k)) = false → valM ks vs k = none
  | [], vs, _, _ => rfl
  | q :: ks, [], h, _ => by simp at h
  | q :: ks, u :: vs, h, a => by
    rw [List.any_cons, Bool.or_eq_false_iff] at a
    rw [valM_cons, if_neg (of_decide_eq_false a.1)]
    exact valM_none k ks vs (by simpa using h) a.2
theorem valM_put {α : Type} (k : List Key) (v : α) (k' : List Key) (ks : List (List Key)) (vs : List α) (h : ks.length = vs.length) : valM (putKs ks k) (putVs ks vs k v) k' = if k' = k then some v else valM ks vs k' := by
  unfold putKs putVs
  by_cases c : (ks.any fun q => decide (q = k)) = true
  · rw [if_pos c, if_pos c, valM_rep k v k' ks vs h]
    by_cases z : k' = k
    · rw [if_pos ⟨z, c⟩, if_pos z]
    · rw [if_neg (fun y => z y.1), if_neg z]
  · rw [if_neg c, if_neg c, valM_app k v k' ks vs h]
    by_cases z : k' = k
    · subst z
      rw [valM_none k' ks vs h (by rw [Bool.not_eq_true] at c; exact c), if_pos rfl]
    · rw [if_neg z]
      cases valM ks vs k' with
      | some u => rfl
      | none => simp [show ¬ k = k' from fun e => z e.symm]
theorem put_len {α : Type} (k : List Key) (v : α) (ks : List (List Key)) (vs : List α) (h : ks.length = vs.length) : (putKs ks k).length = (putVs ks vs k v).length ∧ (putKs ks k).length ≤ ks.length + 1 := by
  unfold putKs putVs
  split
  · refine ⟨?_, by omega⟩
    rw [List.length_map, List.length_zip]; omega
  · rw [List.length_append, List.length_append]
    simp
    omega
theorem plains_put (k : List Key) (v : Val) (ks : List (List Key)) (vs : List Val) (hv : plain v = true) (h : plains vs = true) : plains (putVs ks vs k v) = true := by
  unfold putVs
  split
  · refine plains_all.mpr fun x hx => ?_
    obtain ⟨p, hp, rfl⟩ := List.mem_map.mp hx
    split
    · exact hv
    · exact plains_all.mp h _ (List.of_mem_zip hp).2
  · exact plains_append h (by simp [hv])
abbrev ky2 (a b : List Nat) : List Key := [.inr (sS a), .inr (sS b)]
/-- what is known -/
structure Mo (c : Nat) (o : AO) : Prop where
  ex : ∃ ks vs, o = .dt ks vs ∧ ks.length = vs.length ∧ ks.length ≤ c ∧ plains vs = true ∧ ∀ a b v, valM ks vs (ky2 a b) = some v → v = .int ((sp a b : Nat) : Int)
theorem mo_plain {c : Nat} {o : AO} (m : Mo c o) : o.plain = true := by
  obtain ⟨ks, vs, rfl, _, _, h, _⟩ := m.ex
  exact h
theorem mo_mono {c d : Nat} {o : AO} (m : Mo c o) (h : c ≤ d) : Mo d o := by
  obtain ⟨ks, vs, e, h1, h2, h3, h4⟩ := m.ex
  exact ⟨ks, vs, e, h1, by omega, h3, h4⟩
theorem mo_nil : Mo 0 (.dt [] []) := ⟨[], [], rfl, rfl, Nat.le_refl _, rfl, fun a b v e => by cases e⟩
noncomputable def swC : MT := mAnd (mTest (mOp oEq (mF (mSl (mVar 0) (mNoPart) (mPart (mC (.int 2))))) (mBackS (mF (mSl (mVar 1) (mNoPart) (mPart (mC (.int 2)))))))) (mAnd (mTest (mOp oGt (mCall cLen (mCons (mVar 0) (mNil))) (mC (.int 1)))) (mAnd (mTest (mOp oGt (mCall cLen (mCons (mVar 1) (mNil))) (mC (.int 1)))) (mTest (mOp oNe (mOp oIx (mVar 0) (mC (.int 0))) (mOp oIx (mVar 0) (mC (.int 1)))))))
theorem swp_law (x y : Nat) (a b : List Nat) (la : a.length ≤ 1000) (lb : b.length ≤ 1000) (v2 v3 : Option Val) (h : AH) :
    swC
      [some (sV (x :: a)), some (sV (y :: b)), v2, v3] h = .ok (swp x y a b) h := by
  unfold swC
  have s1 := sz (n := a.length + 1) (by omega)
  have s2 := sz (n := b.length + 1) (by omega)
  have c1 : cutS (sS (x :: a)) none (some 2) = sS (x :: a.take 1) := cutS_to (x :: a) 2
  have c2 : cutS (sS (y :: b)) none (some 2) = sS (y :: b.take 1) := cutS_to (y :: b) 2
  have bk : bkS (.str (sS (y :: b.take 1))) = some (.str (sS (y :: b.take 1).reverse)) := by
    have s3 := sz (n := (y :: b.take 1).length) (by rw [List.length_cons, List.length_take]; omega)
    show (if Mr.sizeOk (sS (y :: b.take 1)).length = true then some (Val.str (backS (sS (y :: b.take 1)))) else none) = _
    rw [sS_len, s3, back_sS]; rfl
  have z1 : decide ((1 : Int) < ((1 : Nat) : Int)) = false := rfl
  have z2 : ∀ k : Nat, decide ((1 : Int) < ((k + 1 + 1 : Nat) : Int)) = true := fun k => decide_eq_true (by omega)
  by_cases c : x :: a.take 1 = (y :: b.take 1).reverse
  · have d1 : decide (sS (x :: a.take 1) = sS (y :: b.take 1).reverse) = true := decide_eq_true (by rw [c])
    cases a with
    | nil =>
      have e : swp x y [] b = false := by unfold swp; exact decide_eq_false fun z => by cases z.1
      rw [e]
      simp -implicitDefEqProofs only [RR, sz0, sz1, sz2, sz3, wipeM, List.set_cons_succ, List.set_cons_zero, List.getElem?_cons_succ, List.getElem?_cons_zero, ↓reduceIte, Bool.false_eq_true, List.length_cons, List.length_nil, Nat.zero_add, Nat.reduceAdd, beq_self_eq_true, Bool.not_true, Bool.not_false, List.cons_append, List.nil_append, List.append_nil, decide_true, decide_false, Bool.true_and, Bool.and_true, oSl_str, sS_len, s1, s2, c1, c2, mBackS_app, bk, oEq_str, d1, oGt_int, z1, z2]
    | cons x2 a =>
      rw [List.length_cons] at s1
      cases b with
      | nil =>
        have e : swp x y (x2 :: a) [] = false := by unfold swp; exact decide_eq_false fun z => by cases z.2.1
        rw [e]
        simp -implicitDefEqProofs only [RR, sz0, sz1, sz2, sz3, wipeM, List.set_cons_succ, List.set_cons_zero, List.getElem?_cons_succ, List.getElem?_cons_zero, ↓reduceIte, Bool.false_eq_true, List.length_cons, List.length_nil, Nat.zero_add, Nat.reduceAdd, beq_self_eq_true, Bool.not_true, Bool.not_false, List.cons_append, List.nil_append, List.append_nil, decide_true, decide_false, Bool.true_and, Bool.and_true, oSl_str, sS_len, s1, s2, c1, c2, mBackS_app, bk, oEq_str, d1, oGt_int, z1, z2]
      | cons y2 b =>
        rw [List.length_cons] at s2
        have c' : [x, x2] = [y2, y] := c
        have e1 : x = y2 := (List.cons.inj c').1
        have e2 : x2 = y := (List.cons.inj (List.cons.inj c').2).1
        have e : swp x y (x2 :: a) (y2 :: b) = !decide (x = x2) := by
          unfold swp
          subst e1 e2
          by_cases z : x = x2
          · rw [decide_eq_true z]; exact decide_eq_false fun w => w.2.2 z
          · rw [decide_eq_false z]; exact decide_eq_true ⟨rfl, rfl, z⟩
        rw [e]
        have i0 : ix1 (L2.atI (x :: x2 :: a) 0) true = some (sV [x]) := by
          have : L2.atI (x :: x2 :: a) ((0 : Nat) : Int) = some x := by rw [atI_nat']; rfl
          rw [show (0 : Int) = ((0 : Nat) : Int) from rfl, this]; rfl
        have i1 : ix1 (L2.atI (x :: x2 :: a) 1) true = some (sV [x2]) := by
          have : L2.atI (x :: x2 :: a) ((1 : Nat) : Int) = some x2 := by rw [atI_nat']; rfl
          rw [show (1 : Int) = ((1 : Nat) : Int) from rfl, this]; rfl
        simp -implicitDefEqProofs only [RR, sz0, sz1, sz2, sz3, wipeM, List.set_cons_succ, List.set_cons_zero, List.getElem?_cons_succ, List.getElem?_cons_zero, ↓reduceIte, Bool.false_eq_true, List.length_cons, List.length_nil, Nat.zero_add, Nat.reduceAdd, beq_self_eq_true, Bool.not_true, Bool.not_false, List.cons_append, List.nil_append, List.append_nil, decide_true, decide_false, Bool.true_and, Bool.and_true, oSl_str, sS_len, s1, s2, c1, c2, mBackS_app, bk, oEq_str, d1, oGt_int, z1, z2, oIx_str, i0, i1, sgeq]
  · have d1 : decide (sS (x :: a.take 1) = sS (y :: b.take 1).reverse) = false := decide_eq_false fun z => c (sS_inj z)
    have e : swp x y a b = false := by
      unfold swp
      refine decide_eq_false fun z => c ?_
      obtain ⟨z1, z2, _⟩ := z
      cases a with
      | nil => cases z1
      | cons x2 a =>
        cases b with
        | nil => cases z2
        | cons y2 b =>
          have e1 : x2 = y := Option.some.inj z1
          have e2 : y2 = x := Option.some.inj z2
          subst e1 e2
          rfl
    rw [e]
    simp -implicitDefEqProofs only [RR, sz0, sz1, sz2, sz3, wipeM, List.set_cons_succ, List.set_cons_zero, List.getElem?_cons_succ, List.getElem?_cons_zero, ↓reduceIte, Bool.false_eq_true, List.length_cons, List.length_nil, Nat.zero_add, Nat.reduceAdd, beq_self_eq_true, Bool.not_true, Bool.not_false, List.cons_append, List.nil_append, List.append_nil, decide_true, decide_false, Bool.true_and, Bool.and_true, oSl_str, sS_len, s1, s2, c1, c2, mBackS_app, bk, oEq_str, d1]
end W

set_option Elab.async false
set_option linter.all false
set_option maxRecDepth 100000
set_option maxHeartbeats 4000000
namespace W
open PySem L2 Mr
theorem ne_empty (x : Nat) (a : List Nat) : decide (sS (x :: a) = (("" : String) : Str)) = false := decide_eq_false fun e => by
  rw [s_nil] at e
  cases sS_inj e
theorem e_empty : decide (sS [] = (("" : String) : Str)) = true := decide_eq_true (by rw [s_nil])
theorem set0 (o o' : AO) : [o].set 0 o' = [o'] := rfl
theorem mInT_app (neg : Bool) (mt : MA) (md : ME) (sl : Sl) (h : AH) : mInT neg mt md sl h = bdK (mt sl h) fun ys h1 => if Mr.sizeOk ys.length = true then bdK (md sl h1) fun d h2 => lfK (inM neg ys d h2) h2 else .bad := by
  unfold mInT
  rw [bnd_app]
  congr 1
  funext ys h1
  split <;> rfl
def smK (o : Option AH) (sl : Sl) : SR := o.map fun h => (.nx sl, h)
theorem smK_some (h : AH) (sl : Sl) : smK (some h) sl = some (.nx sl, h) := rfl
theorem mSetT_app (md : ME) (mt : MA) (mv : ME) (sl : Sl) (h : AH) : mSetT md mt mv sl h = sbK (mv sl h) sl fun v h1 => sbK (md sl h1) sl fun d h2 => sbK (mt sl h2) sl fun ys h3 => smK (setM d ys v h3) sl := by
  unfold mSetT
  rfl
theorem inM_ref (a b : List Nat) (ks : List (List Key)) (vs : List Val) : inM true [sV a, sV b] (.ref 0) [.dt ks vs] = some (.bl !(valM ks vs (ky2 a b)).isSome) := rfl
theorem getM_ref (a b : List Nat) (ks : List (List Key)) (vs : List Val) : getM (.ref 0) [sV a, sV b] [.dt ks vs] = valM ks vs (ky2 a b) := rfl
theorem setM_ref (a b : List Nat) (v : Val) (ks : List (List Key)) (vs : List Val) (hk : ks.length < 16777216) : setM (.ref 0) [sV a, sV b] v [.dt ks vs] = some [.dt (putKs ks (ky2 a b)) (putVs ks vs (ky2 a b) v)] := by
  have : (sizeOk ([sV a, sV b]).length && decide (ks.length < 16777216)) = true := by rw [decide_eq_true hk]; rfl
  show (if (sizeOk ([sV a, sV b]).length && decide (ks.length < 16777216)) = true then some _ else none) = _
  rw [if_pos this]
  rfl
theorem pow3 (k : Nat) : 3 ^ (k + 1) = 3 * 3 ^ k := by rw [Nat.pow_succ, Nat.mul_comm]
theorem key_inj {a b a2 b2 : List Nat} : (ky2 a2 b2 = ky2 a b) ↔ (a2 = a ∧ b2 = b) := ⟨fun e => by
  obtain ⟨e1, e2⟩ := List.cons.inj e
  exact ⟨sS_inj (Sum.inr.inj e1), sS_inj (Sum.inr.inj (List.cons.inj e2).1)⟩, fun ⟨e1, e2⟩ => by rw [e1, e2]⟩
theorem call_slips {f c : Nat} {a b : List Nat} {o : AO} (m : Mo c o) (e : ∃ o', mr__law_slips f [sV a, sV b, .ref 0] [o] = .ok (.int ((sp a b : Nat) : Int)) [o'] ∧ Mo (c + 3 ^ (a.length + b.length)) o') :
    ∃ o', mutN 2 (mr__law_slips f) [sV a, sV b, .ref 0] [o] = .ok (.v (.int ((sp a b : Nat) : Int))) [o'] ∧ Mo (c + 3 ^ (a.length + b.length)) o' := by
  obtain ⟨o', e, m'⟩ := e
  refine ⟨o', ?_, m'⟩
  have := mut_of (p := 2) (n := 0) (f := mr__law_slips f) (xs := [sV a, sV b, .ref 0]) (o := o) (o' := o') (h := [o]) (h2 := [o']) rfl (by simp) rfl (mo_plain m) e (plain_int _) rfl (mo_plain m')
  exact this
theorem run_slips : ∀ (f : Nat) (a b : List Nat) (c : Nat) (o : AO), a.length + b.length < f → a.length ≤ 100 → b.length ≤ 100 → Mo c o → c + 3 ^ (a.length + b.length) ≤ 10000000 → ∃ o', mr__law_slips f [sV a, sV b, .ref 0] [o] = .ok (.int ((sp a b : Nat) : Int)) [o'] ∧ Mo (c + 3 ^ (a.length + b.length)) o'
  | 0, a, b, c, o, hf, _, _, _, _ => by omega
  | f + 1, [], b, c, o, hf, _, lb, m, hc => by
    refine ⟨o, ?_, mo_mono m (Nat.le_add_right _ _)⟩
    rw [a__law_slips]
    unfold b__law_slips
    have s1 := sz (n := b.length) (by omega)
    have e : ((([] : List Nat).length : Int) + (b.length : Int)) = ((sp [] b : Nat) : Int) := by rw [sp_nil_left]; simp
    have e0 : (((0 : Nat) : Int) + (b.length : Int)) = ((sp [] b : Nat) : Int) := e
    simp -implicitDefEqProofs only [RR, sz0, sz1, sz2, sz3, wipeM, List.set_cons_succ, List.set_cons_zero, List.getElem?_cons_succ, List.getElem?_cons_zero, ↓reduceIte, Bool.false_eq_true, List.length_cons, List.length_nil, Nat.zero_add, Nat.reduceAdd, beq_self_eq_true, Bool.not_true, Bool.not_false, List.cons_append, List.nil_append, List.append_nil, decide_true, decide_false, Bool.true_and, Bool.and_true, e_empty, s1, e0, sz0]
  | f + 1, x :: a, [], c, o, hf, la, _, m, hc => by
    refine ⟨o, ?_, mo_mono m (Nat.le_add_right _ _)⟩
    rw [List.length_cons] at la
    rw [a__law_slips]
    unfold b__law_slips
    have s1 := sz (n := a.length + 1) (by omega)
    have e0 : (((a.length + 1 : Nat) : Int) + ((0 : Nat) : Int)) = ((sp (x :: a) [] : Nat) : Int) := by rw [sp_nil_right]; simp
    simp -implicitDefEqProofs only [RR, sz0, sz1, sz2, sz3, wipeM, List.set_cons_succ, List.set_cons_zero, List.getElem?_cons_succ, List.getElem?_cons_zero, ↓reduceIte, Bool.false_eq_true, List.length_cons, List.length_nil, Nat.zero_add, Nat.reduceAdd, beq_self_eq_true, Bool.not_true, Bool.not_false, List.cons_append, List.nil_append, List.append_nil, decide_true, decide_false, Bool.true_and, Bool.and_true, ne_empty, e_empty, s1, e0, sz0]
  | f + 1, x :: a, y :: b, c, o, hf, la, lb, m, hc => by
    rw [List.length_cons] at la lb
    rw [List.length_cons, List.length_cons] at hf hc ⊢
    have p1 : 3 ^ (a.length + 1 + (b.length + 1)) = 9 * 3 ^ (a.length + b.length) := by
      rw [show a.length + 1 + (b.length + 1) = a.length + b.length + 1 + 1 by omega, pow3, pow3]; omega
    have p2 : 3 ^ (a.length + (b.length + 1)) = 3 * 3 ^ (a.length + b.length) := by rw [show a.length + (b.length + 1) = a.length + b.length + 1 by omega, pow3]
    have p3 : 3 ^ (a.length + 1 + b.length) = 3 * 3 ^ (a.length + b.length) := by rw [show a.length + 1 + b.length = a.length + b.length + 1 by omega, pow3]
    have p0 : 0 < 3 ^ (a.length + b.length) := Nat.pow_pos (by decide)
    rw [p1] at hc ⊢
    generalize hP : 3 ^ (a.length + b.length) = P at *
    obtain ⟨ks, vs, rfl, k1, k2, k3, k4⟩ := m.ex
    cases known : valM ks vs (ky2 (x :: a) (y :: b)) with
    | some v =>
      have ev := k4 _ _ _ known
      subst ev
      refine ⟨_, ?_, mo_mono m (by omega)⟩
      rw [a__law_slips]
      unfold b__law_slips
      simp -implicitDefEqProofs only [RR, sz0, sz1, sz2, sz3, wipeM, List.set_cons_succ, List.set_cons_zero, List.getElem?_cons_succ, List.getElem?_cons_zero, ↓reduceIte, Bool.false_eq_true, List.length_cons, List.length_nil, Nat.zero_add, Nat.reduceAdd, beq_self_eq_true, Bool.not_true, Bool.not_false, List.cons_append, List.nil_append, List.append_nil, decide_true, decide_false, Bool.true_and, Bool.and_true, ne_empty, mInT_app, inM_ref, known, Option.isSome_some, mGetT_app, getM_ref]
    | none =>
      have m0 : Mo c (.dt ks vs) := m
      obtain ⟨o1, e1, m1⟩ := call_slips m0 (run_slips f a (y :: b) c _ (by rw [List.length_cons]; omega) (by omega) (by rw [List.length_cons]; omega) m0 (by rw [List.length_cons, p2]; omega))
      rw [List.length_cons, p2] at m1
      obtain ⟨o2, e2, m2⟩ := call_slips m1 (run_slips f (x :: a) b _ _ (by rw [List.length_cons]; omega) (by rw [List.length_cons]; omega) (by omega) m1 (by rw [List.length_cons, p3]; omega))
      rw [List.length_cons, p3] at m2
      obtain ⟨o3, e3, m3⟩ := call_slips m2 (run_slips f a b _ _ (by omega) (by omega) (by omega) m2 (by rw [hP]; omega))
      rw [hP] at m3
      have st := sp_step x y a b
      have s1 := sz (n := a.length + 1) (by omega)
      have s2 := sz (n := b.length + 1) (by omega)
      have c1 : cutS (sS (x :: a)) (some 1) none = sS a := cutS_from (x :: a) 1
      have c2 : cutS (sS (y :: b)) (some 1) none = sS b := cutS_from (y :: b) 1
      have c3 : cutS (sS (x :: a)) (some 2) none = sS a.tail := by rw [show (2 : Int) = ((2 : Nat) : Int) from rfl, cutS_from (x :: a) 2]; cases a <;> rfl
      have c4 : cutS (sS (y :: b)) (some 2) none = sS b.tail := by rw [show (2 : Int) = ((2 : Nat) : Int) from rfl, cutS_from (y :: b) 2]; cases b <;> rfl
      have i0 : ix1 (L2.atI (x :: a) 0) true = some (sV [x]) := by
        have : L2.atI (x :: a) ((0 : Nat) : Int) = some x := by rw [atI_nat']; rfl
        rw [show (0 : Int) = ((0 : Nat) : Int) from rfl, this]; rfl
      have i1 : ix1 (L2.atI (y :: b) 0) true = some (sV [y]) := by
        have : L2.atI (y :: b) ((0 : Nat) : Int) = some y := by rw [atI_nat']; rfl
        rw [show (0 : Int) = ((0 : Nat) : Int) from rfl, this]; rfl
      have b2 : (if (!decide (x = y)) = true then (1 : Int) else 0) = ((ne1 x y : Nat) : Int) := by
        unfold ne1
        by_cases c : x = y
        · simp [c]
        · simp [c]
      generalize hA : sp a (y :: b) = A at *
      generalize hB : sp (x :: a) b = B at *
      generalize hC : sp a b = C at *
      generalize hD : ne1 x y = D at *
      have em : (if (if (B : Int) < (A : Int) then (B : Int) else (A : Int)) + 1 > (C : Int) + D then (C : Int) + D else (if (B : Int) < (A : Int) then (B : Int) else (A : Int)) + 1) = ((min (min A B + 1) (C + D) : Nat) : Int) := by
        split <;> split <;> omega
      have fin : ∀ (o4 : AO) (w : Nat) (d : Nat), Mo (c + 3 * P + 3 * P + P + d) o4 → d ≤ P → w = sp (x :: a) (y :: b) → ∃ o', (mSeq (mSetT (mVar 2) (mCons (mVar 0) (mCons (mVar 1) (mNil))) (mVar 3)) (mRet (mGetT (mVar 2) (mCons (mVar 0) (mCons (mVar 1) (mNil)))))) [some (sV (x :: a)), some (sV (y :: b)), some (.ref 0), some (.int (w : Int))] [o4] = some (.rt (.int ((sp (x :: a) (y :: b) : Nat) : Int)), [o']) ∧ Mo (c + 9 * P) o' := fun o4 w d m4 hd ew => by
        subst ew
        obtain ⟨ks4, vs4, rfl, q1, q2, q3, q4⟩ := m4.ex
        refine ⟨.dt (putKs ks4 (ky2 (x :: a) (y :: b))) (putVs ks4 vs4 (ky2 (x :: a) (y :: b)) (.int ((sp (x :: a) (y :: b) : Nat) : Int))), ?_, ?_⟩
        · have se := setM_ref (x :: a) (y :: b) (.int ((sp (x :: a) (y :: b) : Nat) : Int)) ks4 vs4 (by omega)
          have ge : valM (putKs ks4 (ky2 (x :: a) (y :: b))) (putVs ks4 vs4 (ky2 (x :: a) (y :: b)) (.int ((sp (x :: a) (y :: b) : Nat) : Int))) (ky2 (x :: a) (y :: b)) = some (.int ((sp (x :: a) (y :: b) : Nat) : Int)) := by rw [valM_put _ _ _ _ _ q1, if_pos rfl]
          simp -implicitDefEqProofs only [RR, sz0, sz1, sz2, sz3, wipeM, List.set_cons_succ, List.set_cons_zero, List.getElem?_cons_succ, List.getElem?_cons_zero, ↓reduceIte, Bool.false_eq_true, List.length_cons, List.length_nil, Nat.zero_add, Nat.reduceAdd, beq_self_eq_true, Bool.not_true, Bool.not_false, List.cons_append, List.nil_append, List.append_nil, decide_true, decide_false, Bool.true_and, Bool.and_true, mSetT_app, se, smK_some, mGetT_app, getM_ref, ge]
        · obtain ⟨g1, g2⟩ := put_len (ky2 (x :: a) (y :: b)) (.int ((sp (x :: a) (y :: b) : Nat) : Int)) ks4 vs4 q1
          refine ⟨_, _, rfl, g1, by omega, plains_put _ _ _ _ (plain_int _) q3, fun a2 b2 v hv => ?_⟩
          rw [valM_put _ _ _ _ _ q1] at hv
          split at hv
          · rename_i e
            obtain ⟨e1, e2⟩ := key_inj.mp e
            cases hv
            rw [e1, e2]
          · exact q4 _ _ _ hv
      have sw := fun v3 h => swp_law x y a b (by omega) (by omega) (some (.ref 0)) v3 h
      rw [a__law_slips]
      unfold b__law_slips
      rw [show (mAnd (mTest (mOp oEq (mF (mSl (mVar 0) (mNoPart) (mPart (mC (.int 2))))) (mBackS (mF (mSl (mVar 1) (mNoPart) (mPart (mC (.int 2)))))))) (mAnd (mTest (mOp oGt (mCall cLen (mCons (mVar 0) (mNil))) (mC (.int 1)))) (mAnd (mTest (mOp oGt (mCall cLen (mCons (mVar 1) (mNil))) (mC (.int 1)))) (mTest (mOp oNe (mOp oIx (mVar 0) (mC (.int 0))) (mOp oIx (mVar 0) (mC (.int 1)))))))) = swC from rfl]
      by_cases cs : swp x y a b = true
      · rw [cs, if_pos rfl] at st
        rw [cs] at sw
        obtain ⟨o4, e4, m4⟩ := call_slips m3 (run_slips f a.tail b.tail _ _ (by rw [List.length_tail, List.length_tail]; omega) (by rw [List.length_tail]; omega) (by rw [List.length_tail]; omega) m3 (by
          have : 3 ^ (a.tail.length + b.tail.length) ≤ P := by rw [← hP]; exact Nat.pow_le_pow_right (by decide) (by rw [List.length_tail, List.length_tail]; omega)
          omega))
        have dl : 3 ^ (a.tail.length + b.tail.length) ≤ P := by rw [← hP]; exact Nat.pow_le_pow_right (by decide) (by rw [List.length_tail, List.length_tail]; omega)
        generalize hE : sp a.tail b.tail = Ee at st e4
        obtain ⟨o', ef, mf⟩ := fin o4 (min (min (min A B + 1) (C + D)) (Ee + 1)) _ m4 dl st.symm
        refine ⟨o', ?_, mf⟩
        have em2 : (if (Ee : Int) + 1 < ((min (min A B + 1) (C + D) : Nat) : Int) then (Ee : Int) + 1 else ((min (min A B + 1) (C + D) : Nat) : Int)) = ((min (min (min A B + 1) (C + D)) (Ee + 1) : Nat) : Int) := by split <;> omega
        simp only [mSeq_app] at ef ⊢
        simp -implicitDefEqProofs only [RR, sz0, sz1, sz2, sz3, wipeM, List.set_cons_succ, List.set_cons_zero, List.getElem?_cons_succ, List.getElem?_cons_zero, ↓reduceIte, Bool.false_eq_true, List.length_cons, List.length_nil, Nat.zero_add, Nat.reduceAdd, beq_self_eq_true, Bool.not_true, Bool.not_false, List.cons_append, List.nil_append, List.append_nil, decide_true, decide_false, Bool.true_and, Bool.and_true, ne_empty, mInT_app, inM_ref, known, Option.isSome_none, oSl_str, sS_len, s1, s2, c1, c2, c3, c4, e1, e2, e3, NVF_v, oIx_str, i0, i1, sgeq, b2, em, sw, e4, em2]
        rw [ef]
        rfl
      · rw [Bool.not_eq_true] at cs
        rw [cs, if_neg (by decide)] at st
        rw [cs] at sw
        obtain ⟨o', ef, mf⟩ := fin o3 (min (min A B + 1) (C + D)) 0 m3 (by omega) st.symm
        refine ⟨o', ?_, mf⟩
        simp only [mSeq_app] at ef ⊢
        simp -implicitDefEqProofs only [RR, sz0, sz1, sz2, sz3, wipeM, List.set_cons_succ, List.set_cons_zero, List.getElem?_cons_succ, List.getElem?_cons_zero, ↓reduceIte, Bool.false_eq_true, List.length_cons, List.length_nil, Nat.zero_add, Nat.reduceAdd, beq_self_eq_true, Bool.not_true, Bool.not_false, List.cons_append, List.nil_append, List.append_nil, decide_true, decide_false, Bool.true_and, Bool.and_true, ne_empty, mInT_app, inM_ref, known, Option.isSome_none, oSl_str, sS_len, s1, s2, c1, c2, e1, e2, e3, NVF_v, oIx_str, i0, i1, sgeq, b2, em, sw]
        rw [ef]
        rfl
end W

set_option Elab.async false
set_option linter.all false
set_option maxRecDepth 100000
set_option maxHeartbeats 4000000
namespace W
open PySem L2 Mr
/-! ### what is right of two words and a book -/
noncomputable def rt0 : MS := mSet 4 (mF (mCallM 2 m__law_slips [] (mCons (mVar 1) (mCons (mVar 2) (mCons (mDictT0) (mNil))))))
noncomputable def rt1 : MS := mIfS (mTest (mOp oNe (mCall cReprD (mCons (mT (mLst (mCons (mF (mCallP m_slips [] (mCons (mVar 1) (mCons (mVar 2) (mNil))))) (mCons (mF (mCallK m_slips 0 2 [1, 0] mNil (mCons (mVar 1) (mCons (mVar 2) (mNil))))) (mCons (mF (mCallP m_slips [] (mCons (mBackS (mVar 1)) (mCons (mBackS (mVar 2)) (mNil))))) (mNil)))))) (mNil))) (mCall cReprD (mCons (mT (mOpN oMul (mF (mLst (mCons (mVar 4) (mNil)))) (mC (.int 3)))) (mNil))))) (mRet (mC (.bl false))) (mNext)
noncomputable def rt2 : MS := mIfS (mOr (mTest (mOp oNe (mOp oEq (mVar 4) (mC (.int 0))) (mOp oEq (mVar 1) (mVar 2)))) (mNot (mTest (mChain oLe oLe (mCall cAbs (mCons (mOp oSub (mCall cLen (mCons (mVar 1) (mNil))) (mCall cLen (mCons (mVar 2) (mNil)))) (mNil))) (mVar 4) (mCall cMax2 (mCons (mCall cLen (mCons (mVar 1) (mNil))) (mCons (mCall cLen (mCons (mVar 2) (mNil))) (mNil)))))))) (mRet (mC (.bl false))) (mNext)
noncomputable def rt3 : MS := mSet 5 (mF (mLc (mIter (mVar 3)) (.nm 10) (mYes) (mF (mCallM 2 m__law_slips [] (mCons (mVar 10) (mCons (mVar 1) (mCons (mDictT0) (mNil)))))) [10]))
noncomputable def rt4 : MS := mSet 6 (mF (mLc (mZip (mCons (mVar 3) (mCons (mVar 5) (mNil)))) (.tp [.nm 10, .nm 11]) (mTest (mOp oEq (mVar 11) (mCall cMinL (mCons (mVar 5) (mNil))))) (mVar 10) [10, 11]))
noncomputable def rt5 : MS := mSet 7 (mCallT m_nearest [] (mCons (mVar 3) (mCons (mVar 1) (mNil))))
noncomputable def rt6 : MS := mIfS (mTest (mOp oNe (mCall cReprD (mCons (mT (mLst (mCons (mVar 7) (mCons (mF (mCallK m_nearest 0 2 [1, 0] mNil (mCons (mVar 1) (mCons (mVar 3) (mNil))))) (mNil))))) (mNil))) (mCall cReprD (mCons (mT (mOpN oMul (mF (mLst (mCons (mTup (mCons (mCall cMinL (mCons (mVar 5) (mNil))) (mCons (mVar 6) (mNil)))) (mNil)))) (mC (.int 2)))) (mNil))))) (mRet (mC (.bl false))) (mNext)
noncomputable def rt7 : MS := mDrop (mMethH "list" fAppend (mOp oIx (mVar 7) (mC (.int 1))) (mCons (mC .non) (mNil)))
noncomputable def rt8 : MS := mFor (mRng1 (mCons (mC (.int 4)) (mNil))) (.nm 8) l__law_right_0
noncomputable def rt9 : MS := mRet (mOp oEq (mCallT m_nearest [] (mCons (mVar 3) (mCons (mOp oIx (mVar 3) (mUn uNeg (mC (.int 1)))) (mNil)))) (mTup (mCons (mC (.int 0)) (mCons (mF (mSl (mVar 3) (mPart (mUn uNeg (mC (.int 1)))) (mNoPart))) (mNil)))))
theorem rt_eq : b__law_right = mSeq rt0 (mSeq rt1 (mSeq rt2 (mSeq rt3 (mSeq rt4 (mSeq rt5 (mSeq rt6 (mSeq rt7 (mSeq rt8 rt9)))))))) := rfl
noncomputable def rl0 : MS := mSet 9 (mIf (mTest (mOp oLe (mCall cMinL (mCons (mVar 5) (mNil))) (mVar 8))) (mOp oIx (mVar 6) (mC (.int 0))) (mC .non))
noncomputable def rl1 : MS := mIfS (mTest (mOp oNe (mCall cReprD (mCons (mT (mLst (mCons (mF (mCallP m_mended [] (mCons (mVar 3) (mCons (mVar 1) (mCons (mVar 8) (mNil)))))) (mCons (mF (mCallK m_mended 0 3 [2, 1, 0] mNil (mCons (mVar 8) (mCons (mVar 1) (mCons (mVar 3) (mNil)))))) (mNil))))) (mNil))) (mCall cReprD (mCons (mT (mLst (mCons (mVar 9) (mCons (mVar 9) (mNil))))) (mNil))))) (mRet (mC (.bl false))) (mNext)
theorem rl_eq : l__law_right_0 = mSeq rl0 rl1 := rfl
theorem spec_law_slips {a b : List Nat} (la : a.length ≤ 6) (lb : b.length ≤ 6) {h : AH} {n : Nat} (hn : h[n]? = some (.dt [] [])) : ∃ o', mutN 2 m__law_slips [sV a, sV b, .ref n] h = .ok (.v (.int ((sp a b : Nat) : Int))) (h.set n o') := by
  have p : 3 ^ (a.length + b.length) ≤ 531441 := Nat.le_trans (Nat.pow_le_pow_right (by decide) (show a.length + b.length ≤ 12 by omega)) (by decide)
  obtain ⟨o', e, m⟩ := run_slips 40 a b 0 _ (by omega) (by omega) (by omega) mo_nil (by omega)
  exact ⟨o', mut_of (p := 2) (n := n) (xs := [sV a, sV b, .ref n]) (o := .dt [] []) (o' := o') (h2 := [o']) rfl (by simp) hn rfl e (plain_int _) rfl (mo_plain m)⟩
theorem set_new (h : AH) (o o' : AO) : (h ++ [o]).set h.length o' = h ++ [o'] := by
  rw [List.set_append_right _ _ (Nat.le_refl _), Nat.sub_self]
  rfl
theorem law_slips_new {a b : List Nat} (la : a.length ≤ 6) (lb : b.length ≤ 6) (h : AH) : ∃ o', mutN 2 m__law_slips [sV a, sV b, .ref h.length] (h ++ [.dt [] []]) = .ok (.v (.int ((sp a b : Nat) : Int))) (h ++ [o']) := by
  obtain ⟨o', e⟩ := spec_law_slips la lb (new_at h (.dt [] []))
  rw [set_new] at e
  exact ⟨o', e⟩
section
variable (a b : List Nat) (L : List (List Nat))
def SL (v4 v5 v6 v7 v8 v9 : Option Val) : Sl := [some (.ref 0), some (sV a), some (sV b), some (.fl (L.map sV)), v4, v5, v6, v7, v8, v9, none, none]
theorem st0 (la : a.length ≤ 6) (lb : b.length ≤ 6) (h : AH) : ∃ x, rt0 (SL a b L none none none none none none) h = some (.nx (SL a b L (some (.int ((sp a b : Nat) : Int))) none none none none none), h ++ x) := by
  obtain ⟨o', e⟩ := law_slips_new la lb h
  refine ⟨[o'], ?_⟩
  unfold rt0 SL
  simp -implicitDefEqProofs only [RR, sz0, sz1, sz2, sz3, wipeM, List.set_cons_succ, List.set_cons_zero, List.getElem?_cons_succ, List.getElem?_cons_zero, ↓reduceIte, Bool.false_eq_true, List.length_cons, List.length_nil, Nat.zero_add, Nat.reduceAdd, beq_self_eq_true, Bool.not_true, Bool.not_false, List.cons_append, List.nil_append, List.append_nil, decide_true, decide_false, Bool.true_and, Bool.and_true, mDictT0_app, e, NVF_v]
theorem let_ok {l : List Nat} (h : letters l) : ∀ c ∈ (sS l).cps.toList, c < 0x110000 := fun c hc => by
  have := h c hc
  omega
theorem rev_letters {l : List Nat} (h : letters l) : letters l.reverse := fun c hc => h c (List.mem_reverse.mp hc)
theorem ints_sh (h : AH) (n : Nat) (hn : n ≤ 1000000) : Rhs h 1 100000 [.int (n : Int), .int (n : Int), .int (n : Int)] [.int (n : Int), .int (n : Int), .int (n : Int)] :=
  (Rhs.cons (Rh.nat (by omega)) (Rhs.cons (Rh.nat (by omega)) (Rhs.cons (Rh.nat (by omega)) .nil))).mono (by omega) (by omega)
theorem st1 (ha : letters a) (hb : letters b) (la : a.length ≤ 6) (lb : b.length ≤ 6) (h : AH) : ∃ x, rt1 (SL a b L (some (.int ((sp a b : Nat) : Int))) none none none none none) h = some (.nx (SL a b L (some (.int ((sp a b : Nat) : Int))) none none none none none), h ++ x) := by
  have lt : sp a b ≤ 6 := by have := sp_most a b; omega
  refine ⟨[.lst [.int ((sp a b : Nat) : Int), .int ((sp a b : Nat) : Int), .int ((sp a b : Nat) : Int)], .lst [.int ((sp a b : Nat) : Int), .int ((sp a b : Nat) : Int), .int ((sp a b : Nat) : Int)]], ?_⟩
  unfold rt1
  have bk : ∀ l : List Nat, l.length ≤ 100 → bkS (.str (sS l)) = some (.str (sS l.reverse)) := fun l hl => by
    show (if Mr.sizeOk (sS l).length = true then some (Val.str (backS (sS l))) else none) = _
    rw [sS_len, sz (by omega), back_sS]; rfl
  have e1 := spec_slips ha hb (by omega) (by omega)
  have e2 := spec_slips hb ha (by omega) (by omega)
  have e3 := spec_slips (rev_letters ha) (rev_letters hb) (by rw [List.length_reverse]; omega) (by rw [List.length_reverse]; omega)
  rw [sp_sym] at e2
  rw [sp_rev] at e3
  have ar : ∀ x y : Val, arr [1, 0] [x, y] = [y, x] := fun _ _ => rfl
  have om : ∀ (v : Val) (h : AH), oMul (.fl [v]) (.int 3) h = some (.n [v, v, v]) := fun _ _ => rfl
  rw [mIfS_app, repr_alike (k := 1) (b := 100000) (h1 := h) (h2 := h ++ [.lst _]) (xs := [.int ((sp a b : Nat) : Int), .int ((sp a b : Nat) : Int), .int ((sp a b : Nat) : Int)]) (ys := [.int ((sp a b : Nat) : Int), .int ((sp a b : Nat) : Int), .int ((sp a b : Nat) : Int)]) ?_ ?_ (ints_sh _ _ (by omega)) (ints_sh _ _ (by omega)) (by omega) (by omega)]
  · rw [sbK_ok, if_neg (by decide), mNext_app, List.append_assoc]
    rfl
  · unfold SL
    simp -implicitDefEqProofs only [RR, sz0, sz1, sz2, sz3, wipeM, List.set_cons_succ, List.set_cons_zero, List.getElem?_cons_succ, List.getElem?_cons_zero, ↓reduceIte, Bool.false_eq_true, List.length_cons, List.length_nil, Nat.zero_add, Nat.reduceAdd, beq_self_eq_true, Bool.not_true, Bool.not_false, List.cons_append, List.nil_append, List.append_nil, decide_true, decide_false, Bool.true_and, Bool.and_true, e1, e2, e3, ar, NVF_v, mBackS_app, bk a (by omega), bk b (by omega), and_self]
  · unfold SL
    have p : plains [Val.int ((sp a b : Nat) : Int)] = true := by simp
    simp -implicitDefEqProofs only [RR, sz0, sz1, sz2, sz3, wipeM, List.set_cons_succ, List.set_cons_zero, List.getElem?_cons_succ, List.getElem?_cons_zero, ↓reduceIte, Bool.false_eq_true, List.length_cons, List.length_nil, Nat.zero_add, Nat.reduceAdd, beq_self_eq_true, Bool.not_true, Bool.not_false, List.cons_append, List.nil_append, List.append_nil, decide_true, decide_false, Bool.true_and, Bool.and_true, NVF_n p, om]
theorem st2 (la : a.length ≤ 6) (lb : b.length ≤ 6) (h : AH) : rt2 (SL a b L (some (.int ((sp a b : Nat) : Int))) none none none none none) h = some (.nx (SL a b L (some (.int ((sp a b : Nat) : Int))) none none none none none), h) := by
  unfold rt2 SL
  have e0 : decide (((sp a b : Nat) : Int) = 0) = decide (sS a = sS b) := by
    by_cases z : a = b
    · rw [decide_eq_true (show sS a = sS b by rw [z]), decide_eq_true (by have := (sp_zero a b).mpr z; omega)]
    · rw [decide_eq_false (fun w => z (sS_inj w)), decide_eq_false (fun w => z ((sp_zero a b).mp (by omega)))]
  have nb : ∀ (x : Bool) (h : AH), oNe (.bl x) (.bl x) h = some (.bl false) := fun x h => by rw [oNe_bl, decide_eq_true rfl]; rfl
  have s1 := sz (n := a.length) (by omega)
  have s2 := sz (n := b.length) (by omega)
  have ca : ∀ (i : Int) (h : AH), cAbs [.int i] h = some (.int (if i < 0 then -i else i)) := fun _ _ => rfl
  have d := sp_diff a b
  have m := sp_most a b
  have d1 : decide ((if (a.length : Int) - (b.length : Int) < 0 then -((a.length : Int) - (b.length : Int)) else (a.length : Int) - (b.length : Int)) ≤ ((sp a b : Nat) : Int)) = true := decide_eq_true (by split <;> omega)
  have d2 : decide (((sp a b : Nat) : Int) ≤ (if (b.length : Int) > (a.length : Int) then (b.length : Int) else (a.length : Int))) = true := decide_eq_true (by split <;> omega)
  simp -implicitDefEqProofs only [RR, sz0, sz1, sz2, sz3, wipeM, List.set_cons_succ, List.set_cons_zero, List.getElem?_cons_succ, List.getElem?_cons_zero, ↓reduceIte, Bool.false_eq_true, List.length_cons, List.length_nil, Nat.zero_add, Nat.reduceAdd, beq_self_eq_true, Bool.not_true, Bool.not_false, List.cons_append, List.nil_append, List.append_nil, decide_true, decide_false, Bool.true_and, Bool.and_true, oEq_int, oEq_str, e0, nb, s1, s2, ca, d1, d2, cMax2_int]
theorem nb_loop (la : a.length ≤ 6) (v4 : Option Val) : ∀ (Q : List (List Nat)) (acc : List Nat) (h : AH), (∀ l ∈ Q, l.length ≤ 6) → acc.length + Q.length ≤ 1000 → ∃ x, lcV (.nm 10) mYes (mF (mCallM 2 m__law_slips [] (mCons (mVar 10) (mCons (mVar 1) (mCons (mDictT0) (mNil)))))) (SL a b L v4 none none none none none) (Q.map sV) (rgN acc) h = .ok (rgN (acc ++ nbs Q a)) (h ++ x)
  | [], acc, h, _, _ => ⟨[], by
    rw [List.append_nil]
    show Res.ok (rgN acc) h = .ok (rgN (acc ++ [])) h
    rw [List.append_nil]⟩
  | l :: Q, acc, h, hl, ha => by
    rw [List.length_cons] at ha
    obtain ⟨o', e⟩ := law_slips_new (hl l List.mem_cons_self) la h
    obtain ⟨x, f⟩ := nb_loop la v4 Q (acc ++ [sp l a]) (h ++ [o']) (fun m hm => hl m (List.mem_cons_of_mem _ hm)) (by rw [List.length_append, List.length_singleton]; omega)
    refine ⟨o' :: x, ?_⟩
    have e1 : acc ++ nbs (l :: Q) a = (acc ++ [sp l a]) ++ nbs Q a := by unfold nbs; rw [List.map_cons, List.append_assoc]; rfl
    have e2 : h ++ o' :: x = h ++ [o'] ++ x := by rw [List.append_assoc]; rfl
    have e3 : rgN (acc ++ [sp l a]) = rgN acc ++ [.int ((sp l a : Nat) : Int)] := by unfold rgN; rw [List.map_append]; rfl
    rw [e1, e2, ← f, e3]
    refine lcV_yes (s1 := (SL a b L v4 none none none none none).set 10 (some (sV l))) (h1 := h) (by rw [Pat.bd_nm]) rfl ?_ (by rw [rgN_len]; omega)
    unfold SL
    simp -implicitDefEqProofs only [RR, sz0, sz1, sz2, sz3, wipeM, List.set_cons_succ, List.set_cons_zero, List.getElem?_cons_succ, List.getElem?_cons_zero, ↓reduceIte, Bool.false_eq_true, List.length_cons, List.length_nil, Nat.zero_add, Nat.reduceAdd, beq_self_eq_true, Bool.not_true, Bool.not_false, List.cons_append, List.nil_append, List.append_nil, decide_true, decide_false, Bool.true_and, Bool.and_true, mDictT0_app, e, NVF_v]
theorem st3 (B : Bk L) (la : a.length ≤ 6) (v4 : Option Val) (h : AH) : ∃ x, rt3 (SL a b L v4 none none none none none) h = some (.nx (SL a b L v4 (some (.fl (rgN (nbs L a)))) none none none none), h ++ x) := by
  obtain ⟨x, f⟩ := nb_loop a b L la v4 L [] h (fun l hl => (B.each l hl).2.1) (by have := B.len; simp; omega)
  refine ⟨x, ?_⟩
  unfold rt3
  rw [List.nil_append] at f
  have lc : mLc (mIter (mVar 3)) (.nm 10) (mYes) (mF (mCallM 2 m__law_slips [] (mCons (mVar 10) (mCons (mVar 1) (mCons (mDictT0) (mNil)))))) [10] (SL a b L v4 none none none none none) h = .ok (.n (rgN (nbs L a))) (h ++ x) := by
    rw [mLc_app]
    have w : wipeM (SL a b L v4 none none none none none) [10] = SL a b L v4 none none none none none := rfl
    have f' : lcV (.nm 10) mYes (mF (mCallM 2 m__law_slips [] (mCons (mVar 10) (mCons (mVar 1) (mCons (mDictT0) (mNil)))))) (SL a b L v4 none none none none none) (L.map sV) [] h = .ok (rgN (nbs L a)) (h ++ x) := f
    rw [w]
    have it : mIter (mVar 3) (SL a b L v4 none none none none none) h = .ok (L.map sV) h := by unfold SL; simp -implicitDefEqProofs only [RR, sz0, sz1, sz2, sz3, wipeM, List.set_cons_succ, List.set_cons_zero, List.getElem?_cons_succ, List.getElem?_cons_zero, ↓reduceIte, Bool.false_eq_true, List.length_cons, List.length_nil, Nat.zero_add, Nat.reduceAdd, beq_self_eq_true, Bool.not_true, Bool.not_false, List.cons_append, List.nil_append, List.append_nil, decide_true, decide_false, Bool.true_and, Bool.and_true, ]
    rw [it, bdK_ok, f', bdK_ok]
  rw [mSet_app, mF_app, lc, bdK_ok, NVF_n (plains_rgN _), sbK_ok]
  rfl
theorem st4 (B : Bk L) (v4 : Option Val) (h : AH) : rt4 (SL a b L v4 (some (.fl (rgN (nbs L a)))) none none none none) h = some (.nx (SL a b L v4 (some (.fl (rgN (nbs L a)))) (some (.fl ((nrs L a).map sV))) none none none), h) := by
  unfold rt4
  have l2 := nr_lc B.ne (by have := B.len; omega) a 10 11 3 5 (SL a b L v4 (some (.fl (rgN (nbs L a)))) none none none none) h (by unfold SL; simp -implicitDefEqProofs only [RR, sz0, sz1, sz2, sz3, wipeM, List.set_cons_succ, List.set_cons_zero, List.getElem?_cons_succ, List.getElem?_cons_zero, ↓reduceIte, Bool.false_eq_true, List.length_cons, List.length_nil, Nat.zero_add, Nat.reduceAdd, beq_self_eq_true, Bool.not_true, Bool.not_false, List.cons_append, List.nil_append, List.append_nil, decide_true, decide_false, Bool.true_and, Bool.and_true, ]) (fun l => ⟨[some (.ref 0), some (sV a), some (sV b), some (.fl (L.map sV)), v4, some (.fl (rgN (nbs L a))), none, none, none, none, some (sV l), some (.int ((sp l a : Nat) : Int))], by unfold SL; simp -implicitDefEqProofs only [RR, sz0, sz1, sz2, sz3, wipeM, List.set_cons_succ, List.set_cons_zero, List.getElem?_cons_succ, List.getElem?_cons_zero, ↓reduceIte, Bool.false_eq_true, List.length_cons, List.length_nil, Nat.zero_add, Nat.reduceAdd, beq_self_eq_true, Bool.not_true, Bool.not_false, List.cons_append, List.nil_append, List.append_nil, decide_true, decide_false, Bool.true_and, Bool.and_true, ], rfl, rfl, rfl⟩)
  rw [mSet_app, mF_app, l2, bdK_ok, NVF_n (plains_sV _), sbK_ok]
  rfl
theorem nt_out (B : Bk L) {s : List Nat} (hs : letters s) (ls : s.length ≤ 10) (h : AH) : pureT m_nearest [.fl (L.map sV), sV s] h = .ok (.tup [.int ((lst_ L s : Nat) : Int), .ref h.length]) (h ++ [.lst ((nrs L s).map sV)]) :=
  pureT_of (by simp) (run_nearest B hs ls) (plain_int _) rfl (plains_sV _)
theorem nt_val (B : Bk L) {s : List Nat} (hs : letters s) (ls : s.length ≤ 10) (h : AH) : pureN m_nearest [.fl (L.map sV), sV s] h = .ok (.v (.tup [.int ((lst_ L s : Nat) : Int), .fl ((nrs L s).map sV)])) h :=
  pure_t2 (by simp) (run_nearest B hs ls) (plain_int _) rfl (plains_sV _) h
theorem st5 (B : Bk L) (ha : letters a) (la : a.length ≤ 6) (v4 v5 v6 : Option Val) (h : AH) : rt5 (SL a b L v4 v5 v6 none none none) h = some (.nx (SL a b L v4 v5 v6 (some (.tup [.int ((lst_ L a : Nat) : Int), .ref h.length])) none none), h ++ [.lst ((nrs L a).map sV)]) := by
  unfold rt5 SL
  simp -implicitDefEqProofs only [RR, sz0, sz1, sz2, sz3, wipeM, List.set_cons_succ, List.set_cons_zero, List.getElem?_cons_succ, List.getElem?_cons_zero, ↓reduceIte, Bool.false_eq_true, List.length_cons, List.length_nil, Nat.zero_add, Nat.reduceAdd, beq_self_eq_true, Bool.not_true, Bool.not_false, List.cons_append, List.nil_append, List.append_nil, decide_true, decide_false, Bool.true_and, Bool.and_true, mCallT_app, nt_out L B ha (by omega) h]
theorem names_sh (B : Bk L) (s : List Nat) (h : AH) : Rhs h 1 1000 ((nrs L s).map sV) ((nrs L s).map fun l => .str (sS l)) := by
  have hl : (nrs L s).length ≤ 3 := Nat.le_trans (List.length_filter_le _ _) B.len
  have r : Rhs h 1 ((nrs L s).length * (62 + 2)) ((nrs L s).map sV) ((nrs L s).map fun l => .str (sS l)) := Rhs.map (k := 1) (b := 62) sV (fun l => PyData.str (sS l)) (nrs L s) (fun l hl => by
    obtain ⟨_, q2, q3⟩ := B.each l (List.mem_filter.mp hl).1
    exact (Rh.str (let_ok q3)).mono (Nat.le_refl _) (by rw [sS_len]; omega))
  exact r.mono (Nat.le_refl _) (by omega)
theorem least_le (B : Bk L) (s : List Nat) (ls : s.length ≤ 10) : lst_ L s ≤ 10 := by
  obtain ⟨l, h1, h2⟩ := List.mem_map.mp (mn_mem (nbs_ne B.ne s))
  have := sp_most l s
  have := (B.each l h1).2.1
  have h3 : sp l s = lst_ L s := h2
  rw [← h3]
  omega
theorem st6 (B : Bk L) (ha : letters a) (la : a.length ≤ 6) (v4 : Option Val) (h : AH) (t : Nat) (ht : h[t]? = some (.lst ((nrs L a).map sV))) : ∃ x,
    rt6 (SL a b L v4 (some (.fl (rgN (nbs L a)))) (some (.fl ((nrs L a).map sV))) (some (.tup [.int ((lst_ L a : Nat) : Int), .ref t])) none none) h = some (.nx (SL a b L v4 (some (.fl (rgN (nbs L a)))) (some (.fl ((nrs L a).map sV))) (some (.tup [.int ((lst_ L a : Nat) : Int), .ref t])) none none), h ++ x) := by
  let X : List Val := [.tup [.int ((lst_ L a : Nat) : Int), .ref t], .tup [.int ((lst_ L a : Nat) : Int), .fl ((nrs L a).map sV)]]
  let Y : List Val := [.tup [.int ((lst_ L a : Nat) : Int), .fl ((nrs L a).map sV)], .tup [.int ((lst_ L a : Nat) : Int), .fl ((nrs L a).map sV)]]
  refine ⟨[.lst X, .lst Y], ?_⟩
  have ll := least_le L B a (by omega)
  have sf : ∀ h : AH, Rh h 4 10000 (.tup [.int ((lst_ L a : Nat) : Int), .fl ((nrs L a).map sV)]) (.tuple [.int ((lst_ L a : Nat) : Int), .list ((nrs L a).map fun l => .str (sS l))]) := fun h => (Rh.tup (Rhs.cons (Rh.nat (by omega)) (Rhs.cons (Rh.fl (names_sh L B a h)) .nil))).mono (by omega) (by omega)
  have sr : ∀ h : AH, h[t]? = some (.lst ((nrs L a).map sV)) → Rh h 4 10000 (.tup [.int ((lst_ L a : Nat) : Int), .ref t]) (.tuple [.int ((lst_ L a : Nat) : Int), .list ((nrs L a).map fun l => .str (sS l))]) := fun h e => (Rh.tup (Rhs.cons (Rh.nat (by omega)) (Rhs.cons (Rh.ref e (names_sh L B a h)) .nil))).mono (by omega) (by omega)
  unfold rt6
  have ar : ∀ x y : Val, arr [1, 0] [x, y] = [y, x] := fun _ _ => rfl
  have om : ∀ (v : Val) (h : AH), oMul (.fl [v]) (.int 2) h = some (.n [v, v]) := fun _ _ => rfl
  have cm := cMin_nat (nbs_ne B.ne a)
  rw [mIfS_app, repr_alike (k := 4) (b := 30000) (h1 := h) (h2 := h ++ [.lst X]) (xs := X) (ys := Y) ?_ ?_ ((Rhs.cons (sr _ (keep_at ht _)) (Rhs.cons (sf _) .nil)).mono (by omega) (by omega)) ((Rhs.cons (sf _) (Rhs.cons (sf _) .nil)).mono (by omega) (by omega)) (by omega) (by omega)]
  · rw [sbK_ok, if_neg (by decide), mNext_app, List.append_assoc]
    rfl
  · unfold SL
    simp -implicitDefEqProofs only [RR, sz0, sz1, sz2, sz3, wipeM, List.set_cons_succ, List.set_cons_zero, List.getElem?_cons_succ, List.getElem?_cons_zero, ↓reduceIte, Bool.false_eq_true, List.length_cons, List.length_nil, Nat.zero_add, Nat.reduceAdd, beq_self_eq_true, Bool.not_true, Bool.not_false, List.cons_append, List.nil_append, List.append_nil, decide_true, decide_false, Bool.true_and, Bool.and_true, ar, nt_val L B ha (by omega), NVF_v]
    rfl
  · unfold SL
    have p : plains [Val.tup [.int ((lst_ L a : Nat) : Int), .fl ((nrs L a).map sV)]] = true := by simp
    have cm' : ∀ h, cMinL [.fl (rgN (nbs L a))] h = some (.int ((lst_ L a : Nat) : Int)) := cm
    simp -implicitDefEqProofs only [RR, sz0, sz1, sz2, sz3, wipeM, List.set_cons_succ, List.set_cons_zero, List.getElem?_cons_succ, List.getElem?_cons_zero, ↓reduceIte, Bool.false_eq_true, List.length_cons, List.length_nil, Nat.zero_add, Nat.reduceAdd, beq_self_eq_true, Bool.not_true, Bool.not_false, List.cons_append, List.nil_append, List.append_nil, decide_true, decide_false, Bool.true_and, Bool.and_true, cm', NVF_n p, om]
    rfl
theorem st7 (v4 v5 v6 : Option Val) (h : AH) (t m : Nat) (xs : List Val) (ht : h[t]? = some (.lst xs)) (hx : xs.length ≤ 1000) : rt7 (SL a b L v4 v5 v6 (some (.tup [.int (m : Int), .ref t])) none none) h = some (.nx (SL a b L v4 v5 v6 (some (.tup [.int (m : Int), .ref t])) none none), h.set t (.lst (xs ++ [.non]))) := by
  obtain ⟨l1, l2, l3⟩ := lst_of ht
  unfold rt7 SL
  have e : L2.atI [Val.int (m : Int), .ref t] 1 = some (.ref t) := rfl
  have s1 := sz (n := xs.length + 1) (by omega)
  simp -implicitDefEqProofs only [RR, sz0, sz1, sz2, sz3, wipeM, List.set_cons_succ, List.set_cons_zero, List.getElem?_cons_succ, List.getElem?_cons_zero, ↓reduceIte, Bool.false_eq_true, List.length_cons, List.length_nil, Nat.zero_add, Nat.reduceAdd, beq_self_eq_true, Bool.not_true, Bool.not_false, List.cons_append, List.nil_append, List.append_nil, decide_true, decide_false, Bool.true_and, Bool.and_true, oIx_tup, e, l3, fAppend_ref, l2, apK_some, s1]
theorem md_sh (B : Bk L) (s : List Nat) (k : Nat) (h : AH) : ∃ d, ∀ h, Rh h 1 1000 (mdV L s k) d := by
  unfold mdV
  split
  · refine ⟨.str (sS ((nrs L s).headD [])), fun h => ?_⟩
    cases e : nrs L s with
    | nil => exact absurd e (nrs_ne B.ne s)
    | cons l ls =>
      have hm : l ∈ L := (List.mem_filter.mp (show l ∈ nrs L s by rw [e]; exact List.mem_cons_self)).1
      obtain ⟨_, q2, q3⟩ := B.each l hm
      exact (Rh.str (let_ok q3)).mono (Nat.le_refl _) (by rw [sS_len]; show 10 * l.length + 2 ≤ 1000; omega)
  · exact ⟨_, fun h => Rh.non.mono (Nat.le_refl _) (by omega)⟩
theorem turn (B : Bk L) (ha : letters a) (la : a.length ≤ 6) (k : Nat) (hk : k ≤ 3) (v4 v7 v9 : Option Val) (h : AH) : ∃ x v9', l__law_right_0 (SL a b L v4 (some (.fl (rgN (nbs L a)))) (some (.fl ((nrs L a).map sV))) v7 (some (.int (k : Int))) v9) h = some (.nx (SL a b L v4 (some (.fl (rgN (nbs L a)))) (some (.fl ((nrs L a).map sV))) v7 (some (.int (k : Int))) v9'), h ++ x) := by
  obtain ⟨d, sd⟩ := md_sh L B a k h
  refine ⟨[.lst [mdV L a k, mdV L a k], .lst [mdV L a k, mdV L a k]], some (mdV L a k), ?_⟩
  rw [rl_eq, mSeq_app]
  have cm' : ∀ h, cMinL [.fl (rgN (nbs L a))] h = some (.int ((lst_ L a : Nat) : Int)) := cMin_nat (nbs_ne B.ne a)
  have e0 : rl0 (SL a b L v4 (some (.fl (rgN (nbs L a)))) (some (.fl ((nrs L a).map sV))) v7 (some (.int (k : Int))) v9) h = some (.nx (SL a b L v4 (some (.fl (rgN (nbs L a)))) (some (.fl ((nrs L a).map sV))) v7 (some (.int (k : Int))) (some (mdV L a k))), h) := by
    unfold rl0 SL mdV
    have hd := head_at B.ne a
    by_cases c : lst_ L a ≤ k
    · have dd : decide (((lst_ L a : Nat) : Int) ≤ (k : Int)) = true := decide_eq_true (by omega)
      rw [if_pos c]
      simp -implicitDefEqProofs only [RR, sz0, sz1, sz2, sz3, wipeM, List.set_cons_succ, List.set_cons_zero, List.getElem?_cons_succ, List.getElem?_cons_zero, ↓reduceIte, Bool.false_eq_true, List.length_cons, List.length_nil, Nat.zero_add, Nat.reduceAdd, beq_self_eq_true, Bool.not_true, Bool.not_false, List.cons_append, List.nil_append, List.append_nil, decide_true, decide_false, Bool.true_and, Bool.and_true, cm', dd, oIx_fl, hd]
    · have dd : decide (((lst_ L a : Nat) : Int) ≤ (k : Int)) = false := decide_eq_false (by omega)
      rw [if_neg c]
      simp -implicitDefEqProofs only [RR, sz0, sz1, sz2, sz3, wipeM, List.set_cons_succ, List.set_cons_zero, List.getElem?_cons_succ, List.getElem?_cons_zero, ↓reduceIte, Bool.false_eq_true, List.length_cons, List.length_nil, Nat.zero_add, Nat.reduceAdd, beq_self_eq_true, Bool.not_true, Bool.not_false, List.cons_append, List.nil_append, List.append_nil, decide_true, decide_false, Bool.true_and, Bool.and_true, cm', dd]
  rw [e0, sqK_nx]
  unfold rl1
  have ar : ∀ x y z : Val, arr [2, 1, 0] [x, y, z] = [z, y, x] := fun _ _ _ => rfl
  have mv : ∀ h, NV.F (.v (mdV L a k)) h = .ok (mdV L a k) h := fun _ => rfl
  rw [mIfS_app, repr_alike (k := 1) (b := 30000) (h1 := h) (h2 := h ++ [.lst [mdV L a k, mdV L a k]]) (xs := [mdV L a k, mdV L a k]) (ys := [mdV L a k, mdV L a k]) ?_ ?_ ((Rhs.cons (sd _) (Rhs.cons (sd _) .nil)).mono (by omega) (by omega)) ((Rhs.cons (sd _) (Rhs.cons (sd _) .nil)).mono (by omega) (by omega)) (by omega) (by omega)]
  · rw [sbK_ok, if_neg (by decide), mNext_app, List.append_assoc]
    rfl
  · unfold SL
    simp -implicitDefEqProofs only [RR, sz0, sz1, sz2, sz3, wipeM, List.set_cons_succ, List.set_cons_zero, List.getElem?_cons_succ, List.getElem?_cons_zero, ↓reduceIte, Bool.false_eq_true, List.length_cons, List.length_nil, Nat.zero_add, Nat.reduceAdd, beq_self_eq_true, Bool.not_true, Bool.not_false, List.cons_append, List.nil_append, List.append_nil, decide_true, decide_false, Bool.true_and, Bool.and_true, spec_mended B ha (show a.length ≤ 10 by omega) k hk, ar, mv, and_self]
  · unfold SL
    simp -implicitDefEqProofs only [RR, sz0, sz1, sz2, sz3, wipeM, List.set_cons_succ, List.set_cons_zero, List.getElem?_cons_succ, List.getElem?_cons_zero, ↓reduceIte, Bool.false_eq_true, List.length_cons, List.length_nil, Nat.zero_add, Nat.reduceAdd, beq_self_eq_true, Bool.not_true, Bool.not_false, List.cons_append, List.nil_append, List.append_nil, decide_true, decide_false, Bool.true_and, Bool.and_true, ]
theorem st8 (B : Bk L) (ha : letters a) (la : a.length ≤ 6) (v4 v7 : Option Val) (h : AH) : ∃ x v8 v9, rt8 (SL a b L v4 (some (.fl (rgN (nbs L a)))) (some (.fl ((nrs L a).map sV))) v7 none none) h = some (.nx (SL a b L v4 (some (.fl (rgN (nbs L a)))) (some (.fl ((nrs L a).map sV))) v7 v8 v9), h ++ x) := by
  have loop : ∀ (n j : Nat) (v8 v9 : Option Val) (h : AH), j + n = 4 → ∃ x v8' v9', forV (.nm 8) l__law_right_0 ((List.range n).map fun i => .int ((j + i : Nat) : Int)) (SL a b L v4 (some (.fl (rgN (nbs L a)))) (some (.fl ((nrs L a).map sV))) v7 v8 v9) h = some (.nx (SL a b L v4 (some (.fl (rgN (nbs L a)))) (some (.fl ((nrs L a).map sV))) v7 v8' v9'), h ++ x) := by
    intro n
    induction n with
    | zero => intro j v8 v9 h _; exact ⟨[], v8, v9, by rw [List.append_nil]; rfl⟩
    | succ n ih =>
      intro j v8 v9 h hj
      obtain ⟨x, v9', e⟩ := turn a b L B ha la j (by omega) v4 v7 v9 h
      obtain ⟨y, v8'', v9'', f⟩ := ih (j + 1) (some (.int (j : Int))) v9' (h ++ x) (by omega)
      refine ⟨x ++ y, v8'', v9'', ?_⟩
      rw [List.range_succ_eq_map, List.map_cons, List.map_map, forV_cons]
      have er : (List.range n).map (fun i => Val.int ((j + 1 + i : Nat) : Int)) = (List.range n).map ((fun i => Val.int ((j + i : Nat) : Int)) ∘ Nat.succ) := List.map_congr_left fun i _ => by
        show Val.int ((j + 1 + i : Nat) : Int) = Val.int ((j + (i + 1) : Nat) : Int)
        rw [show j + 1 + i = j + (i + 1) by omega]
      rw [← er, Nat.add_zero]
      have bd : Pat.bd (.nm 8) (.int (j : Int)) (SL a b L v4 (some (.fl (rgN (nbs L a)))) (some (.fl ((nrs L a).map sV))) v7 v8 v9) = some (SL a b L v4 (some (.fl (rgN (nbs L a)))) (some (.fl ((nrs L a).map sV))) v7 (some (.int (j : Int))) v9) := rfl
      rw [bd]
      dsimp only
      rw [e, lpK_nx, f, List.append_assoc]
  obtain ⟨x, v8, v9, f⟩ := loop 4 0 none none h rfl
  refine ⟨x, v8, v9, ?_⟩
  unfold rt8
  have er : (List.range 4).map (fun i => Val.int ((0 + i : Nat) : Int)) = rngV 0 4 := rfl
  rw [er] at f
  have it : mRng1 (mCons (mC (.int 4)) (mNil)) (SL a b L v4 (some (.fl (rgN (nbs L a)))) (some (.fl ((nrs L a).map sV))) v7 none none) h = .ok (rngV 0 4) h := by
    have ro : rngOk 4 = true := rfl
    simp -implicitDefEqProofs only [RR, sz0, sz1, sz2, sz3, wipeM, List.set_cons_succ, List.set_cons_zero, List.getElem?_cons_succ, List.getElem?_cons_zero, ↓reduceIte, Bool.false_eq_true, List.length_cons, List.length_nil, Nat.zero_add, Nat.reduceAdd, beq_self_eq_true, Bool.not_true, Bool.not_false, List.cons_append, List.nil_append, List.append_nil, decide_true, decide_false, Bool.true_and, Bool.and_true, ro]
    rfl
  rw [mFor_app, it, sbK_ok, f]
end
end W

set_option Elab.async false
set_option linter.all false
set_option maxRecDepth 100000
set_option maxHeartbeats 4000000
namespace W
open PySem L2 Mr
theorem cutL_one {α : Type} (xs : List α) (v : α) : cutL (xs ++ [v]) (some (-1)) none = [v] := by
  unfold cutL
  have e : HT.sIx (xs ++ [v]).length 0 (some (-1)) = xs.length := by
    unfold HT.sIx
    rw [List.length_append, List.length_singleton]
    dsimp only
    split <;> omega
  rw [e, HT.sIx_none, List.drop_append_of_le_length (Nat.le_refl _), List.drop_length, List.nil_append, List.length_append, List.length_singleton, Nat.add_sub_cancel_left]
  rfl
theorem bk_last {L : List (List Nat)} (B : Bk L) : ∃ P l, L = P ++ [l] ∧ lst_ L l = 0 ∧ nrs L l = [l] := by
  rcases List.eq_nil_or_concat L with e | ⟨P, l, e⟩
  · exact absurd e B.ne
  · rw [List.concat_eq_append] at e
    have hm : l ∈ L := by rw [e]; simp
    have h0 : lst_ L l = 0 := by
      have h1 : lst_ L l ≤ sp l l := mn_le (List.mem_map.mpr ⟨l, hm, rfl⟩)
      have h2 := (sp_zero l l).mpr rfl
      omega
    refine ⟨P, l, e, h0, ?_⟩
    unfold nrs
    rw [h0, e, List.filter_append]
    have e1 : P.filter (fun m => decide (sp m l = 0)) = [] := by
      rw [List.filter_eq_nil_iff]
      intro m hp h
      have h2 := (sp_zero m l).mp (of_decide_eq_true h)
      have up := B.up
      rw [e, List.pairwise_append] at up
      have := up.2.2 m hp l (by simp)
      rw [h2] at this
      exact List.lt_irrefl l this
    rw [e1, List.nil_append]
    have z : decide (sp l l = 0) = true := decide_eq_true ((sp_zero l l).mpr rfl)
    simp only [List.filter, z]
section
variable (a b : List Nat) (L : List (List Nat))
theorem st9 (B : Bk L) (v4 v5 v6 v7 v8 v9 : Option Val) (h : AH) : ∃ x, rt9 (SL a b L v4 v5 v6 v7 v8 v9) h = some (.rt (.bl true), h ++ x) := by
  obtain ⟨P, l, e, e0, e1⟩ := bk_last B
  obtain ⟨q1, q2, q3⟩ := B.each l (by rw [e]; simp)
  have nt := nt_out L B q3 (by omega) h
  rw [e0, e1] at nt
  refine ⟨[.lst [sV l]], ?_⟩
  have hm : L.map sV = P.map sV ++ [sV l] := by rw [e, List.map_append]; rfl
  have la : L2.atI (L.map sV) (-1) = some (sV l) := by rw [hm, atI_last']
  have cl : cutL (L.map sV) (some (-1)) none = [sV l] := by rw [hm, cutL_one]
  have n1 : (-(1 : Int)) = -1 := rfl
  have z0 : ((0 : Nat) : Int) = 0 := rfl
  have nt' : pureT m_nearest [.fl (L.map sV), .str (sS l)] h = .ok (.tup [.int 0, .ref h.length]) (h ++ [.lst [sV l]]) := nt
  have s1 : Sh 2 1921 (.tup [.int 0, .fl [sV l]]) ∨ True := .inr trivial
  have sh : Sh 4 100000 (.tup [.int 0, .fl [sV l]]) := by
    have i1 : Sh 3 5000 (.int 0) := (Sh.small (by omega) (by omega)).mono (by omega) (by omega)
    have i2 : Sh 3 5000 (.fl [sV l]) := (Sh.fl (k := 1) (b := 62) (xs := [sV l]) fun x hx => by
      rw [List.mem_singleton.mp hx]
      exact (Sh.str (let_ok q3)).mono (Nat.le_refl _) (by rw [sS_len]; omega)).mono (by omega) (by simp)
    have := Sh.tup (k := 3) (b := 5000) (xs := [.int 0, .fl [sV l]]) fun x hx => by
      rcases List.mem_cons.mp hx with z | z
      · rw [z]; exact i1
      · rw [List.mem_singleton.mp z]; exact i2
    exact this.mono (by omega) (by simp)
  have eq := sh.eq (by omega) (h ++ [.lst [sV l]])
  have et : oEq (.tup [.int 0, .ref h.length]) (.tup [.int 0, .fl [sV l]]) (h ++ [.lst [sV l]]) = some (.bl true) := by rw [oEq_tref (new_at h (.lst [sV l])), eq]
  unfold rt9 SL
  have pl : plains [sV l] = true := by simp
  simp -implicitDefEqProofs only [RR, sz0, sz1, sz2, sz3, wipeM, List.set_cons_succ, List.set_cons_zero, List.getElem?_cons_succ, List.getElem?_cons_zero, ↓reduceIte, Bool.false_eq_true, List.length_cons, List.length_nil, Nat.zero_add, Nat.reduceAdd, beq_self_eq_true, Bool.not_true, Bool.not_false, List.cons_append, List.nil_append, List.append_nil, decide_true, decide_false, Bool.true_and, Bool.and_true, mCallT_app, n1, la, nt', cl, NVF_n pl, et]
theorem run_right (B : Bk L) (ha : letters a) (hb : letters b) (la : a.length ≤ 6) (lb : b.length ≤ 6) (o : AO) : ∃ h2, m__law_right [.ref 0, sV a, sV b, .fl (L.map sV)] [o] = .ok (.bl true) h2 ∧ h2[0]? = some o := by
  have k0 : ([o] : AH)[0]? = some o := rfl
  obtain ⟨x0, e0⟩ := st0 a b L la lb [o]
  have k1 := keep_at k0 x0
  generalize [o] ++ x0 = h1 at e0 k1
  obtain ⟨x1, e1⟩ := st1 a b L ha hb la lb h1
  have k2 := keep_at k1 x1
  generalize h1 ++ x1 = h2 at e1 k2
  have e2 := st2 a b L la lb h2
  obtain ⟨x3, e3⟩ := st3 a b L B la (some (.int ((sp a b : Nat) : Int))) h2
  have k3 := keep_at k2 x3
  generalize h2 ++ x3 = h3 at e3 k3
  have e4 := st4 a b L B (some (.int ((sp a b : Nat) : Int))) h3
  have e5 := st5 a b L B ha la (some (.int ((sp a b : Nat) : Int))) (some (.fl (rgN (nbs L a)))) (some (.fl ((nrs L a).map sV))) h3
  have k5 := keep_at k3 [.lst ((nrs L a).map sV)]
  have t5 := new_at h3 (.lst ((nrs L a).map sV))
  have tp : 0 < h3.length := (List.getElem?_eq_some_iff.mp k3).1
  generalize h3.length = t at e5 t5 tp
  generalize h3 ++ [.lst ((nrs L a).map sV)] = h5 at e5 k5 t5
  obtain ⟨x6, e6⟩ := st6 a b L B ha la (some (.int ((sp a b : Nat) : Int))) h5 t t5
  have k6 := keep_at k5 x6
  have t6 := keep_at t5 x6
  generalize h5 ++ x6 = h6 at e6 k6 t6
  have nl : (nrs L a).length ≤ 3 := Nat.le_trans (List.length_filter_le _ _) B.len
  have e7 := st7 a b L (some (.int ((sp a b : Nat) : Int))) (some (.fl (rgN (nbs L a)))) (some (.fl ((nrs L a).map sV))) h6 t (lst_ L a) _ t6 (by rw [List.length_map]; omega)
  have k7 : (h6.set t (.lst ((nrs L a).map sV ++ [.non])))[0]? = some o := by rw [List.getElem?_set_ne (by omega)]; exact k6
  generalize h6.set t (.lst ((nrs L a).map sV ++ [.non])) = h7 at e7 k7
  obtain ⟨x8, v8, v9, e8⟩ := st8 a b L B ha la (some (.int ((sp a b : Nat) : Int))) (some (.tup [.int ((lst_ L a : Nat) : Int), .ref t])) h7
  have k8 := keep_at k7 x8
  generalize h7 ++ x8 = h8 at e8 k8
  obtain ⟨x9, e9⟩ := st9 a b L B (some (.int ((sp a b : Nat) : Int))) (some (.fl (rgN (nbs L a)))) (some (.fl ((nrs L a).map sV))) (some (.tup [.int ((lst_ L a : Nat) : Int), .ref t])) v8 v9 h8
  have k9 := keep_at k8 x9
  refine ⟨h8 ++ x9, ?_, k9⟩
  rw [a__law_right, rt_eq]
  have es : ([some (.ref 0), some (sV a), some (sV b), some (.fl (L.map sV)), none, none, none, none, none, none, none, none] : Sl) = SL a b L none none none none none none := rfl
  rw [es, mSeq_app, e0, sqK_nx, mSeq_app, e1, sqK_nx, mSeq_app, e2, sqK_nx, mSeq_app, e3, sqK_nx, mSeq_app, e4, sqK_nx, mSeq_app, e5, sqK_nx, mSeq_app, e6, sqK_nx, mSeq_app, e7, sqK_nx, mSeq_app, e8, sqK_nx, e9]
  rfl
theorem set_same {h : AH} {n : Nat} {o : AO} (hn : h[n]? = some o) : h.set n o = h := by
  apply List.ext_getElem?
  intro i
  by_cases z : i = n
  · subst z
    rw [List.getElem?_set_self (List.getElem?_eq_some_iff.mp hn).1, hn]
  · rw [List.getElem?_set_ne (Ne.symm z)]
theorem spec_right (B : Bk L) (ha : letters a) (hb : letters b) (la : a.length ≤ 6) (lb : b.length ≤ 6) {h : AH} {n : Nat} {o : AO} (hn : h[n]? = some o) (po : o.plain = true) : mutN 0 m__law_right [.ref n, sV a, sV b, .fl (L.map sV)] h = .ok (.v (.bl true)) h := by
  obtain ⟨h2, e, k⟩ := run_right a b L B ha hb la lb o
  have := mut_of (p := 0) (n := n) (f := m__law_right) (xs := [.ref n, sV a, sV b, .fl (L.map sV)]) (o := o) (o' := o) (h := h) (h2 := h2) (v := .bl true) rfl (by simp) hn po e (plain_bl _) k po
  rw [set_same hn] at this
  exact this
end
theorem abc_letters {l : List Nat} (h : abc l) : letters l := fun x hx => by have := h x hx; omega
/-! ### the law -/
def SW (ns : List Int) (v1 v2 v3 v4 v5 : Option Val) : Sl := [some (.sl (ns.map Val.int)), v1, v2, v3, v4, v5, none]
theorem turn0 (ns : List Int) {L : List (List Nat)} (B : Bk L) (v3 v4 v5 : Option Val) {h : AH} {n c : Nat} {o : AO} (hn : h[n]? = some o) (g : Dr c o) (hc : c ≤ 40000) : ∃ o', l_law_0 (SW ns (some (.ref n)) (some (.fl (L.map sV))) v3 v4 v5) h = some (.nx (SW ns (some (.ref n)) (some (.fl (L.map sV))) v3 v4 v5), h.set n o') ∧ Dr (c + 202) o' := by
  obtain ⟨a, o1, la, ha, e1, g1⟩ := spec_string 6 (by omega) hn g (by omega)
  have n1 : (h.set n o1)[n]? = some o1 := List.getElem?_set_self (List.getElem?_eq_some_iff.mp hn).1
  obtain ⟨b, o2, lb, hb, e2, g2⟩ := spec_string 6 (by omega) n1 g1 (by omega)
  rw [List.set_set] at e2
  have n2 : (h.set n o2)[n]? = some o2 := List.getElem?_set_self (List.getElem?_eq_some_iff.mp hn).1
  have r := spec_right a b L B (abc_letters ha) (abc_letters hb) la lb n2 (dr_plain g2)
  refine ⟨o2, ?_, dr_mono g2 (by omega)⟩
  unfold l_law_0 SW
  have e1' : mutN 0 m__law_string [.ref n, .int 6] h = .ok (.v (sV a)) (h.set n o1) := e1
  have e2' : mutN 0 m__law_string [.ref n, .int 6] (h.set n o1) = .ok (.v (sV b)) (h.set n o2) := e2
  simp -implicitDefEqProofs only [RR, sz0, sz1, sz2, sz3, wipeM, List.set_cons_succ, List.set_cons_zero, List.getElem?_cons_succ, List.getElem?_cons_zero, ↓reduceIte, Bool.false_eq_true, List.length_cons, List.length_nil, Nat.zero_add, Nat.reduceAdd, beq_self_eq_true, Bool.not_true, Bool.not_false, List.cons_append, List.nil_append, List.append_nil, decide_true, decide_false, Bool.true_and, Bool.and_true, e1', e2', r, NVF_v]
theorem loop0 (ns : List Int) {L : List (List Nat)} (B : Bk L) (n : Nat) (v4 v5 : Option Val) : ∀ (vs : List Val) (v3 : Option Val) (h : AH) (c : Nat) (o : AO), h[n]? = some o → Dr c o → c + 202 * vs.length ≤ 40000 → ∃ v3' o', forV (.nm 3) l_law_0 vs (SW ns (some (.ref n)) (some (.fl (L.map sV))) v3 v4 v5) h = some (.nx (SW ns (some (.ref n)) (some (.fl (L.map sV))) v3' v4 v5), h.set n o') ∧ Dr (c + 202 * vs.length) o'
  | [], v3, h, c, o, hn, g, _ => ⟨v3, o, by rw [set_same hn]; rfl, g⟩
  | v :: vs, v3, h, c, o, hn, g, hc => by
    rw [List.length_cons] at hc
    obtain ⟨o1, e, g1⟩ := turn0 ns B (some v) v4 v5 hn g (by omega)
    have n1 : (h.set n o1)[n]? = some o1 := List.getElem?_set_self (List.getElem?_eq_some_iff.mp hn).1
    obtain ⟨v3', o', f, g2⟩ := loop0 ns B n v4 v5 vs (some v) _ _ _ n1 g1 (by omega)
    refine ⟨v3', o', ?_, dr_mono g2 (by rw [List.length_cons]; omega)⟩
    rw [forV_cons]
    have bd : Pat.bd (.nm 3) v (SW ns (some (.ref n)) (some (.fl (L.map sV))) v3 v4 v5) = some (SW ns (some (.ref n)) (some (.fl (L.map sV))) (some v) v4 v5) := rfl
    rw [bd]
    dsimp only
    rw [e, lpK_nx, f, List.set_set]
theorem turn1 (ns : List Int) (n : Nat) (v2 v3 v4 v5 : Option Val) {h : AH} {o : AO} (hn : h[n]? = some o) (g : Dr 0 o) : ∃ v2' v3' o', l_law_1 (SW ns (some (.ref n)) v2 v3 v4 v5) h = some (.nx (SW ns (some (.ref n)) v2' v3' v4 v5), h.set n o') := by
  obtain ⟨L, o1, B, e1, g1⟩ := spec_book hn g (by omega)
  have n1 : (h.set n o1)[n]? = some o1 := List.getElem?_set_self (List.getElem?_eq_some_iff.mp hn).1
  obtain ⟨v3', o', f, g2⟩ := loop0 ns B n v4 v5 (rngV 0 3) v3 _ _ _ n1 g1 (by rw [rng_len]; omega)
  rw [List.set_set] at f
  refine ⟨some (.fl (L.map sV)), v3', o', ?_⟩
  unfold l_law_1
  have ro : rngOk 3 = true := rfl
  have e0 : mSet 2 (mF (mCallM 0 m__law_book [] (mCons (mVar 1) (mNil)))) (SW ns (some (.ref n)) v2 v3 v4 v5) h = some (.nx (SW ns (some (.ref n)) (some (.fl (L.map sV))) v3 v4 v5), h.set n o1) := by
    unfold SW
    simp -implicitDefEqProofs only [RR, sz0, sz1, sz2, sz3, wipeM, List.set_cons_succ, List.set_cons_zero, List.getElem?_cons_succ, List.getElem?_cons_zero, ↓reduceIte, Bool.false_eq_true, List.length_cons, List.length_nil, Nat.zero_add, Nat.reduceAdd, beq_self_eq_true, Bool.not_true, Bool.not_false, List.cons_append, List.nil_append, List.append_nil, decide_true, decide_false, Bool.true_and, Bool.and_true, e1, NVF_v]
  rw [mSeq_app, e0, sqK_nx]
  have it : mRng1 (mCons (mC (.int 3)) (mNil)) (SW ns (some (.ref n)) (some (.fl (L.map sV))) v3 v4 v5) (h.set n o1) = .ok (rngV 0 3) (h.set n o1) := by
    simp -implicitDefEqProofs only [RR, sz0, sz1, sz2, sz3, wipeM, List.set_cons_succ, List.set_cons_zero, List.getElem?_cons_succ, List.getElem?_cons_zero, ↓reduceIte, Bool.false_eq_true, List.length_cons, List.length_nil, Nat.zero_add, Nat.reduceAdd, beq_self_eq_true, Bool.not_true, Bool.not_false, List.cons_append, List.nil_append, List.append_nil, decide_true, decide_false, Bool.true_and, Bool.and_true, ro]
    rfl
  rw [mFor_app, it, sbK_ok, f]
/-- all rows of draws stand at their beginning -/
def Fresh (h : AH) (m : Nat) : Prop := ∀ i, i < m → ∃ o, h[i]? = some o ∧ Dr 0 o
theorem loop1 (ns : List Int) (v4 v5 : Option Val) : ∀ (k i : Nat) (v1 v2 v3 : Option Val) (h : AH), (∀ j, i ≤ j → j < i + k → ∃ o, h[j]? = some o ∧ Dr 0 o) → ∃ v1' v2' v3' h', forV (.nm 1) l_law_1 ((List.range k).map fun j => .ref (i + j)) (SW ns v1 v2 v3 v4 v5) h = some (.nx (SW ns v1' v2' v3' v4 v5), h')
  | 0, i, v1, v2, v3, h, _ => ⟨v1, v2, v3, h, rfl⟩
  | k + 1, i, v1, v2, v3, h, hf => by
    obtain ⟨o, ho, g⟩ := hf i (Nat.le_refl _) (by omega)
    obtain ⟨v2a, v3a, o1, e⟩ := turn1 ns i v2 v3 v4 v5 ho g
    obtain ⟨v1', v2', v3', h', f⟩ := loop1 ns v4 v5 k (i + 1) (some (.ref i)) v2a v3a (h.set i o1) (fun j h1 h2 => by
      rw [List.getElem?_set_ne (by omega)]
      exact hf j (by omega) (by omega))
    refine ⟨v1', v2', v3', h', ?_⟩
    rw [List.range_succ_eq_map, List.map_cons, List.map_map, forV_cons]
    have er : (List.range k).map (fun j => Val.ref (i + 1 + j)) = (List.range k).map ((fun j => Val.ref (i + j)) ∘ Nat.succ) := List.map_congr_left fun j _ => by
      show Val.ref (i + 1 + j) = Val.ref (i + (j + 1))
      rw [show i + 1 + j = i + (j + 1) by omega]
    rw [← er, Nat.add_zero]
    have bd : Pat.bd (.nm 1) (.ref i) (SW ns v1 v2 v3 v4 v5) = some (SW ns (some (.ref i)) v2 v3 v4 v5) := rfl
    rw [bd]
    dsimp only
    rw [e, lpK_nx, f]
theorem dr_loop (sl : Sl) (h6 : 6 < sl.length) : ∀ (is : List Int) (acc : List Val) (h : AH), acc.length + is.length ≤ 1000 → acc = (List.range h.length).map Val.ref → (∀ j, j < h.length → ∃ o, h[j]? = some o ∧ Dr 0 o) → ∃ h', lcV (.nm 6) mYes (mT (mCallP m__law_draws [] (mCons (mVar 6) (mNil)))) sl (is.map Val.int) acc h = .ok ((List.range h'.length).map Val.ref) h' ∧ h'.length = h.length + is.length ∧ ∀ j, j < h'.length → ∃ o, h'[j]? = some o ∧ Dr 0 o
  | [], acc, h, _, ha, hf => ⟨h, by rw [ha]; rfl, by simp, hf⟩
  | i :: is, acc, h, hl, ha, hf => by
    rw [List.length_cons] at hl
    obtain ⟨a, b, e⟩ := spec_draws i h
    have hf2 : ∀ j, j < (h ++ [AO.lst [.int a, .int 0, .bl b]]).length → ∃ o, (h ++ [AO.lst [.int a, .int 0, .bl b]])[j]? = some o ∧ Dr 0 o := fun j hj => by
      rw [List.length_append, List.length_singleton] at hj
      by_cases z : j < h.length
      · obtain ⟨o, h1, h2⟩ := hf j z
        exact ⟨o, keep_at h1 _, h2⟩
      · rw [show j = h.length by omega]
        exact ⟨_, new_at h _, a, 0, b, rfl, by omega, by omega⟩
    obtain ⟨h', f, f1, f2⟩ := dr_loop sl h6 is (acc ++ [.ref h.length]) (h ++ [AO.lst [.int a, .int 0, .bl b]]) (by rw [List.length_append, List.length_singleton]; omega) (by
      rw [ha, List.length_append, List.length_singleton, List.range_succ, List.map_append]; rfl) hf2
    refine ⟨h', ?_, by rw [f1, List.length_append, List.length_singleton, List.length_cons]; omega, f2⟩
    rw [← f]
    refine lcV_yes (s1 := sl.set 6 (some (.int i))) (h1 := h) (by rw [Pat.bd_nm]) rfl ?_ (by omega)
    have g6 : (sl.set 6 (some (.int i)))[6]? = some (some (.int i)) := List.getElem?_set_self h6
    simp -implicitDefEqProofs only [RR, sz0, sz1, sz2, sz3, wipeM, List.set_cons_succ, List.set_cons_zero, List.getElem?_cons_succ, List.getElem?_cons_zero, ↓reduceIte, Bool.false_eq_true, List.length_cons, List.length_nil, Nat.zero_add, Nat.reduceAdd, beq_self_eq_true, Bool.not_true, Bool.not_false, List.cons_append, List.nil_append, List.append_nil, decide_true, decide_false, Bool.true_and, Bool.and_true, g6, e, NVT_n]
end W

set_option Elab.async false
set_option linter.all false
set_option maxRecDepth 100000
set_option maxHeartbeats 8000000
namespace W
open PySem L2 Mr
noncomputable def lw0 : MS := mFor (mIterN (mLc (mIter (mF (mOpN oAdd (mF (mSl (mVar 0) (mNoPart) (mPart (mC (.int 3))))) (mF (mLst (mCons (mC (.int 0)) (mNil))))))) (.nm 6) (mYes) (mT (mCallP m__law_draws [] (mCons (mVar 6) (mNil)))) [6])) (.nm 1) l_law_1
noncomputable def lw1 : MS := mSet 1 (mT (mCallP m__law_draws [] (mCons (mC (.int 0)) (mNil))))
noncomputable def lw2 : MS := mFor (mIter (mF (mLst (mCons (mTup (mCons (mC (.str "ca")) (mCons (mC (.str "abc")) (mNil)))) (mCons (mTup (mCons (mC (.str "form")) (mCons (mC (.str "from")) (mNil)))) (mCons (mTup (mCons (mC (.str "")) (mCons (mC (.str "abc")) (mNil)))) (mCons (mTup (mCons (mC (.str "abab")) (mCons (mC (.str "baba")) (mNil)))) (mCons (mTup (mCons (mC (.str "aab")) (mCons (mC (.str "aba")) (mNil)))) (mNil))))))))) (.tp [.nm 4, .nm 5]) l_law_2
noncomputable def lw3 : MS := mIfS (mTest (mOp oNe (mF (mLst (mCons (mF (mCallP m_slips [] (mCons (mC (.str "ca")) (mCons (mC (.str "abc")) (mNil))))) (mCons (mF (mCallP m_slips [] (mCons (mC (.str "form")) (mCons (mC (.str "from")) (mNil))))) (mNil))))) (mF (mLst (mCons (mC (.int 3)) (mCons (mC (.int 1)) (mNil))))))) (mRet (mC (.bl false))) (mNext)
noncomputable def lw4 : MS := mRet (mOp oEq (mCallT m_nearest [] (mCons (mF (mLst (mCons (mC (.str "cat")) (mCons (mC (.str "cot")) (mNil))))) (mCons (mC (.str "cet")) (mNil)))) (mTup (mCons (mC (.int 1)) (mCons (mF (mLst (mCons (mC (.str "cat")) (mCons (mC (.str "cot")) (mNil))))) (mNil)))))
theorem lw_eq : b_law = mSeq lw0 (mSeq lw1 (mSeq lw2 (mSeq lw3 lw4))) := rfl
def CD : List (List Nat) := [[99, 97, 116], [99, 111, 116], [100, 111, 103]]
theorem bkCD : Bk CD := ⟨by decide, by decide, by
  intro l hl
  have : ∀ l ∈ CD, 1 ≤ l.length ∧ l.length ≤ 6 ∧ ∀ x ∈ l, 97 ≤ x ∧ x ≤ 122 := by decide
  exact this l hl, by decide⟩
def PR : List (List Nat × List Nat) := [([99, 97], [97, 98, 99]), ([102, 111, 114, 109], [102, 114, 111, 109]), ([], [97, 98, 99]), ([97, 98, 97, 98], [98, 97, 98, 97]), ([97, 97, 98], [97, 98, 97])]
theorem pr_ok : ∀ p ∈ PR, p.1.length ≤ 6 ∧ p.2.length ≤ 6 ∧ letters p.1 ∧ letters p.2 := by
  have : ∀ p ∈ PR, p.1.length ≤ 6 ∧ p.2.length ≤ 6 ∧ (∀ x ∈ p.1, 97 ≤ x ∧ x ≤ 122) ∧ (∀ x ∈ p.2, 97 ≤ x ∧ x ≤ 122) := by decide
  exact this
def prV (p : List Nat × List Nat) : Val := .tup [sV p.1, sV p.2]
theorem pr_eq : [Val.tup [.str "ca", .str "abc"], .tup [.str "form", .str "from"], .tup [.str "", .str "abc"], .tup [.str "abab", .str "baba"], .tup [.str "aab", .str "aba"]] = PR.map prV := by kernel_rfl
theorem cd_eq : [Val.str "cat", .str "cot", .str "dog"] = CD.map sV := by kernel_rfl
theorem loop2 (ns : List Int) (n : Nat) (v2 v3 : Option Val) {h : AH} {o : AO} (hn : h[n]? = some o) (po : o.plain = true) : ∀ (Q : List (List Nat × List Nat)) (v4 v5 : Option Val), (∀ p ∈ Q, p ∈ PR) → ∃ v4' v5', forV (.tp [.nm 4, .nm 5]) l_law_2 (Q.map prV) (SW ns (some (.ref n)) v2 v3 v4 v5) h = some (.nx (SW ns (some (.ref n)) v2 v3 v4' v5'), h)
  | [], v4, v5, _ => ⟨v4, v5, rfl⟩
  | p :: Q, v4, v5, hq => by
    obtain ⟨p1, p2, p3, p4⟩ := pr_ok p (hq p List.mem_cons_self)
    obtain ⟨v4', v5', f⟩ := loop2 ns n v2 v3 hn po Q (some (sV p.1)) (some (sV p.2)) fun q hq2 => hq q (List.mem_cons_of_mem _ hq2)
    refine ⟨v4', v5', ?_⟩
    have r := spec_right p.1 p.2 CD bkCD p3 p4 p1 p2 hn po
    rw [List.map_cons, forV_cons]
    have bd : Pat.bd (.tp [.nm 4, .nm 5]) (prV p) (SW ns (some (.ref n)) v2 v3 v4 v5) = some (SW ns (some (.ref n)) v2 v3 (some (sV p.1)) (some (sV p.2))) := by
      unfold prV SW
      simp -implicitDefEqProofs only [RR, sz0, sz1, sz2, sz3, wipeM, List.set_cons_succ, List.set_cons_zero, List.getElem?_cons_succ, List.getElem?_cons_zero, ↓reduceIte, Bool.false_eq_true, List.length_cons, List.length_nil, Nat.zero_add, Nat.reduceAdd, beq_self_eq_true, Bool.not_true, Bool.not_false, List.cons_append, List.nil_append, List.append_nil, decide_true, decide_false, Bool.true_and, Bool.and_true, ]
    rw [bd]
    dsimp only
    have e : l_law_2 (SW ns (some (.ref n)) v2 v3 (some (sV p.1)) (some (sV p.2))) h = some (.nx (SW ns (some (.ref n)) v2 v3 (some (sV p.1)) (some (sV p.2))), h) := by
      unfold l_law_2 SW
      have pl : plains (CD.map sV) = true := plains_sV _
      have s3 : Mr.sizeOk (CD.map sV).length = true := rfl
      simp -implicitDefEqProofs only [RR, sz0, sz1, sz2, sz3, wipeM, List.set_cons_succ, List.set_cons_zero, List.getElem?_cons_succ, List.getElem?_cons_zero, ↓reduceIte, Bool.false_eq_true, List.length_cons, List.length_nil, Nat.zero_add, Nat.reduceAdd, beq_self_eq_true, Bool.not_true, Bool.not_false, List.cons_append, List.nil_append, List.append_nil, decide_true, decide_false, Bool.true_and, Bool.and_true, cd_eq, s3, NVF_n pl, r, NVF_v]
    rw [e, lpK_nx, f]
theorem last_ok : ∀ (v1 v2 v3 v4 v5 : Option Val) (ns : List Int) (h : AH), ∃ h', mSeq lw3 lw4 (SW ns v1 v2 v3 v4 v5) h = some (.rt (.bl true), h') := fun v1 v2 v3 v4 v5 ns h => by
  have e1 : ∀ h, pureN m_slips [.str "ca", .str "abc"] h = .ok (.v (.int 3)) h := fun h => by
    have := spec_slips (a := [99, 97]) (b := [97, 98, 99]) (by unfold letters; decide) (by unfold letters; decide) (by decide) (by decide) h
    have e : sp [99, 97] [97, 98, 99] = 3 := by
      simp [sp, ne1]
    rw [e] at this
    exact this
  have e2 : ∀ h, pureN m_slips [.str "form", .str "from"] h = .ok (.v (.int 1)) h := fun h => by
    have := spec_slips (a := [102, 111, 114, 109]) (b := [102, 114, 111, 109]) (by unfold letters; decide) (by unfold letters; decide) (by decide) (by decide) h
    have e : sp [102, 111, 114, 109] [102, 114, 111, 109] = 1 := by
      simp [sp, ne1]
    rw [e] at this
    exact this
  have B : Bk [[99, 97, 116], [99, 111, 116]] := ⟨by decide, by decide, by
    intro l hl
    have : ∀ l ∈ ([[99, 97, 116], [99, 111, 116]] : List (List Nat)), 1 ≤ l.length ∧ l.length ≤ 6 ∧ ∀ x ∈ l, 97 ≤ x ∧ x ≤ 122 := by decide
    exact this l hl, by decide⟩
  have s1 : sp [99, 97, 116] [99, 101, 116] = 1 := by simp [sp, ne1]
  have s2 : sp [99, 111, 116] [99, 101, 116] = 1 := by simp [sp, ne1]
  have nb : nbs [[99, 97, 116], [99, 111, 116]] [99, 101, 116] = [1, 1] := by unfold nbs; rw [List.map_cons, List.map_cons, s1, s2]; rfl
  have l1 : lst_ [[99, 97, 116], [99, 111, 116]] [99, 101, 116] = 1 := by unfold lst_; rw [nb]; rfl
  have n1 : nrs [[99, 97, 116], [99, 111, 116]] [99, 101, 116] = [[99, 97, 116], [99, 111, 116]] := by
    unfold nrs
    rw [l1]
    refine List.filter_eq_self.mpr fun l hl => ?_
    rcases List.mem_cons.mp hl with z | z
    · rw [z]; exact decide_eq_true s1
    · rw [List.mem_singleton.mp z]; exact decide_eq_true s2
  have nt := fun h => nt_out [[99, 97, 116], [99, 111, 116]] B (s := [99, 101, 116]) (by unfold letters; decide) (by decide) h
  rw [l1, n1] at nt
  have nt' : ∀ h, pureT m_nearest [.fl [.str "cat", .str "cot"], .str "cet"] h = .ok (.tup [.int 1, .ref h.length]) (h ++ [.lst [.str "cat", .str "cot"]]) := nt
  have en : ∀ h, oNe (.fl [.int 3, .int 1]) (.fl [.int 3, .int 1]) h = some (.bl false) := fun h => by kernel_rfl
  have ev : oEq (.tup [.int 1, .fl [.str "cat", .str "cot"]]) (.tup [.int 1, .fl [.str "cat", .str "cot"]]) (h ++ [.lst [.str "cat", .str "cot"]]) = some (.bl true) := by kernel_rfl
  have et : oEq (.tup [.int 1, .ref h.length]) (.tup [.int 1, .fl [.str "cat", .str "cot"]]) (h ++ [.lst [.str "cat", .str "cot"]]) = some (.bl true) := by rw [oEq_tref (new_at h _), ev]
  refine ⟨h ++ [.lst [.str "cat", .str "cot"]], ?_⟩
  rw [mSeq_app]
  have p1 : plains [Val.int 3, .int 1] = true := by simp
  have p2 : plains [Val.str "cat", .str "cot"] = true := by simp
  have q3 : lw3 (SW ns v1 v2 v3 v4 v5) h = some (.nx (SW ns v1 v2 v3 v4 v5), h) := by
    unfold lw3
    simp -implicitDefEqProofs only [RR, sz0, sz1, sz2, sz3, wipeM, List.set_cons_succ, List.set_cons_zero, List.getElem?_cons_succ, List.getElem?_cons_zero, ↓reduceIte, Bool.false_eq_true, List.length_cons, List.length_nil, Nat.zero_add, Nat.reduceAdd, beq_self_eq_true, Bool.not_true, Bool.not_false, List.cons_append, List.nil_append, List.append_nil, decide_true, decide_false, Bool.true_and, Bool.and_true, e1, e2, NVF_v, NVF_n p1, en]
  rw [q3, sqK_nx]
  unfold lw4
  simp -implicitDefEqProofs only [RR, sz0, sz1, sz2, sz3, wipeM, List.set_cons_succ, List.set_cons_zero, List.getElem?_cons_succ, List.getElem?_cons_zero, ↓reduceIte, Bool.false_eq_true, List.length_cons, List.length_nil, Nat.zero_add, Nat.reduceAdd, beq_self_eq_true, Bool.not_true, Bool.not_false, List.cons_append, List.nil_append, List.append_nil, decide_true, decide_false, Bool.true_and, Bool.and_true, mCallT_app, NVF_n p2, nt', et]
theorem law_true (ns : List Int) : ∃ h', m_law [.sl (ns.map Val.int)] [] = .ok (.bl true) h' := by
  have is1 : (ns.map Val.int).take 3 ++ [.int 0] = (ns.take 3 ++ [0]).map Val.int := by rw [List.map_append, List.map_take]; rfl
  have l4 : (ns.take 3 ++ [0]).length ≤ 4 := by rw [List.length_append, List.length_take]; simp; omega
  generalize ns.take 3 ++ [0] = is at is1 l4
  obtain ⟨h1, f, f1, f2⟩ := dr_loop (SW ns none none none none none) (show 6 < 7 by decide) is [] [] (by simp; omega) rfl (fun j hj => by cases hj)
  obtain ⟨v1, v2, v3, h2, f3⟩ := loop1 ns none none h1.length 0 none none none h1 (fun j _ hj => f2 j (by omega))
  have er : (List.range h1.length).map (fun j => Val.ref (0 + j)) = (List.range h1.length).map Val.ref := List.map_congr_left fun j _ => by rw [Nat.zero_add]
  rw [er] at f3
  obtain ⟨a, b, e4⟩ := spec_draws 0 h2
  have n4 := new_at h2 (AO.lst [.int a, .int 0, .bl b])
  obtain ⟨v4, v5, f5⟩ := loop2 ns h2.length v2 v3 n4 (by simp [AO.plain]) PR none none (fun p hp => hp)
  obtain ⟨h3, f6⟩ := last_ok (some (.ref h2.length)) v2 v3 v4 v5 ns (h2 ++ [AO.lst [.int a, .int 0, .bl b]])
  refine ⟨h3, ?_⟩
  rw [a_law, lw_eq]
  have es : ([some (.sl (ns.map Val.int)), none, none, none, none, none, none] : Sl) = SW ns none none none none none := rfl
  rw [es]
  have c3 : cutL (ns.map Val.int) none (some 3) = (ns.map Val.int).take 3 := cutL_to (ns.map Val.int) 3
  have w : wipeM (SW ns none none none none none) [6] = SW ns none none none none none := rfl
  have pz : plains (is.map Val.int) = true := plains_map _ _ fun _ => plain_int _
  have pt : plains ((ns.map Val.int).take 3) = true := plains_all.mpr fun x hx => plains_all.mp (plains_map ns Val.int fun _ => plain_int _) x (List.mem_of_mem_take hx)
  have p0 : plains [Val.int 0] = true := by simp
  have s4 : Mr.sizeOk (((ns.map Val.int).take 3).length + 1) = true := sz (by rw [List.length_take]; omega)
  have q0 : lw0 (SW ns none none none none none) [] = some (.nx (SW ns v1 v2 v3 none none), h2) := by
    unfold lw0
    have it : mIter (mF (mOpN oAdd (mF (mSl (mVar 0) (mNoPart) (mPart (mC (.int 3))))) (mF (mLst (mCons (mC (.int 0)) (mNil)))))) (SW ns none none none none none) [] = .ok (is.map Val.int) [] := by
      unfold SW
      simp -implicitDefEqProofs only [RR, sz0, sz1, sz2, sz3, wipeM, List.set_cons_succ, List.set_cons_zero, List.getElem?_cons_succ, List.getElem?_cons_zero, ↓reduceIte, Bool.false_eq_true, List.length_cons, List.length_nil, Nat.zero_add, Nat.reduceAdd, beq_self_eq_true, Bool.not_true, Bool.not_false, List.cons_append, List.nil_append, List.append_nil, decide_true, decide_false, Bool.true_and, Bool.and_true, oSl_sl, c3, NVF_n pt, NVF_n p0, s4, is1, NVF_n pz]
    rw [mFor_app, mIterN_app, mLc_app, it, bdK_ok, w, f, bdK_ok, bdK_ok, inK_n, sbK_ok, f3]
  have q1 : lw1 (SW ns v1 v2 v3 none none) h2 = some (.nx (SW ns (some (.ref h2.length)) v2 v3 none none), h2 ++ [AO.lst [.int a, .int 0, .bl b]]) := by
    unfold lw1 SW
    simp -implicitDefEqProofs only [RR, sz0, sz1, sz2, sz3, wipeM, List.set_cons_succ, List.set_cons_zero, List.getElem?_cons_succ, List.getElem?_cons_zero, ↓reduceIte, Bool.false_eq_true, List.length_cons, List.length_nil, Nat.zero_add, Nat.reduceAdd, beq_self_eq_true, Bool.not_true, Bool.not_false, List.cons_append, List.nil_append, List.append_nil, decide_true, decide_false, Bool.true_and, Bool.and_true, e4, NVT_n]
  have q2 : lw2 (SW ns (some (.ref h2.length)) v2 v3 none none) (h2 ++ [AO.lst [.int a, .int 0, .bl b]]) = some (.nx (SW ns (some (.ref h2.length)) v2 v3 v4 v5), h2 ++ [AO.lst [.int a, .int 0, .bl b]]) := by
    unfold lw2
    have s5 : Mr.sizeOk (PR.map prV).length = true := rfl
    have pp : plains (PR.map prV) = true := by kernel_rfl
    have it : mIter (mF (mLst (mCons (mTup (mCons (mC (.str "ca")) (mCons (mC (.str "abc")) (mNil)))) (mCons (mTup (mCons (mC (.str "form")) (mCons (mC (.str "from")) (mNil)))) (mCons (mTup (mCons (mC (.str "")) (mCons (mC (.str "abc")) (mNil)))) (mCons (mTup (mCons (mC (.str "abab")) (mCons (mC (.str "baba")) (mNil)))) (mCons (mTup (mCons (mC (.str "aab")) (mCons (mC (.str "aba")) (mNil)))) (mNil)))))))) (SW ns (some (.ref h2.length)) v2 v3 none none) (h2 ++ [AO.lst [.int a, .int 0, .bl b]]) = .ok (PR.map prV) (h2 ++ [AO.lst [.int a, .int 0, .bl b]]) := by
      simp -implicitDefEqProofs only [RR, sz0, sz1, sz2, sz3, wipeM, List.set_cons_succ, List.set_cons_zero, List.getElem?_cons_succ, List.getElem?_cons_zero, ↓reduceIte, Bool.false_eq_true, List.length_cons, List.length_nil, Nat.zero_add, Nat.reduceAdd, beq_self_eq_true, Bool.not_true, Bool.not_false, List.cons_append, List.nil_append, List.append_nil, decide_true, decide_false, Bool.true_and, Bool.and_true, s5, pr_eq, NVF_n pp]
    rw [mFor_app, it, sbK_ok, f5]
  rw [mSeq_app, q0, sqK_nx, mSeq_app, q1, sqK_nx, mSeq_app, q2, sqK_nx, f6]
  rfl
theorem holds : PySem.Challenge.rw_everrow_k68_slips_and_nearest_names.Holds := holds_of fun ns _ => law_true ns
end W

theorem PySem.Challenge.cw_everrow_k68_slips_and_nearest_names_holds : PySem.Challenge.rw_everrow_k68_slips_and_nearest_names.Holds :=
  W.holds
